import PyProof.Rows.All
import HandS.ForMost
import HandS.Deep
import HandS.IsInst
import HandS.Wide
import HandS.WideBits
import HandS.Flow
import HandS.Zip
import HandS.ForExc
import HandS.ExcSuper
import HandS.ExcIs
import HandS.ExcValue
import HandS.TupLe
import HandS.Style
import HandS.Ends
import HandS.EndBits
import HandS.Words
import HandS.Lambda
import HandS.Text
import PySem.Challenge.RW_supermoves_k15_whole_what_bars
set_option Elab.async false
set_option linter.all false
set_option maxRecDepth 100000
set_option exponentiation.threshold 3000
set_option maxHeartbeats 8000000
section
/-! ZM, part A: the small machine's values, its ghost, what a value stands for. -/
namespace ZM
open PySem L2

/-- built-in types that are named -/
inductive Ty where
  | non | bool | int | str | tup | lst | dic
  deriving DecidableEq, Inhabited
def Ty.name : Ty → String
  | .non => "NoneType"
  | .bool => "bool"
  | .int => "int"
  | .str => "str"
  | .tup => "tuple"
  | .lst => "list"
  | .dic => "dict"
/-- a value of the small machine: lst is a list that is never written again, rep the text that repr gives of such a value, ref a list that may be written -/
inductive Z where
  | non | bl (b : Bool) | int (i : Int) | str (s : Str) | rep (d : PyData)
  | tup (l : List Z) | lst (l : List Z) | scr (l : List Int) | dic0 | ref (n : Nat) | fn (k : Nat) | cls (k : Nat) | ty (n : Ty)
  deriving Inhabited

inductive MO where
  | lst (l : List Z) | dead
abbrev Mem := List MO
abbrev Sl := List (Option Z)
abbrev St := L2.St
inductive Res (α : Type) where
  | ok (a : α) (M : Mem) | exc (k : Nat) (v : Z) (M : Mem) | stuck
def Res.bind {α β : Type} (r : Res α) (f : α → Mem → Res β) : Res β := match r with
  | .ok a M => f a M
  | .exc k v M => .exc k v M
  | .stuck => .stuck
/-- what is wanted of a result -/
def Res.To {α : Type} (r : Res α) (P : α → Mem → Prop) (E : Nat → Z → Mem → Prop) : Prop := match r with
  | .ok a M => P a M
  | .exc k v M => E k v M
  | .stuck => False
theorem Res.To.bind {α β : Type} {r : Res α} {f : α → Mem → Res β} {P : β → Mem → Prop} {E : Nat → Z → Mem → Prop} (h : (r.bind f).To P E) : r.To (fun a M => (f a M).To P E) E := by
  cases r <;> exact h
theorem Res.To.imp {α : Type} {r : Res α} {P P' : α → Mem → Prop} {E E' : Nat → Z → Mem → Prop} (h : r.To P E) (hp : ∀ a M, P a M → P' a M) (he : ∀ k v M, E k v M → E' k v M) : r.To P' E' := by
  cases r with
  | ok a M => exact hp a M h
  | exc k v M => exact he k v M h
  | stuck => exact h

/-- where defs and classes stand -/
structure Tab where
  fn : Nat → Addr
  cls : Nat → Addr
/-- the ghost: what is frozen, and the real addresses of the machine's lists -/
structure Gh where
  F : Addr → Option HO
  ad : List Addr
  /-- what is being made and not yet handed out -/
  tmp : List (Addr × HO)

/-- a tuple of the written part -/
def KTup (K : PySem.W.Frag) (a : Addr) (xs : List V) : Prop :=
  ∃ (o : Obj) (its : Array Value) (n : Nat), K.lookup a = some o ∧ o.cls = .type "tuple" ∧ o.data = .seq its n ∧ its.size ≤ sizeLine ∧ Vals xs its.toList

/-- a list of the written part -/
def KLst (K : PySem.W.Frag) (a : Addr) (xs : List V) : Prop :=
  ∃ (o : Obj) (its : Array Value) (n : Nat), K.lookup a = some o ∧ o.cls = .type "list" ∧ o.dict = none ∧ o.data = .seq its n ∧ its.size ≤ sizeLine ∧ Vals xs its.toList
section
variable (K : PySem.W.Frag) (T : Tab)
mutual
def RelZ (g : Gh) : Z → V → Prop
  | .non, v => v = .non
  | .bl b, v => v = .bl b
  | .int i, v => v = .int i
  | .str s, v => v = .str s
  | .rep d, v => v = .str d.shown
  | .tup l, v => ∃ a vs, v = .ref a ∧ (g.F a = some (.tup vs) ∨ KTup K a vs) ∧ RelZs g l vs
  | .lst l, v => ∃ a vs, v = .ref a ∧ g.F a = some (.lst vs) ∧ RelZs g l vs
  | .scr l, v => ∃ a, v = .ref a ∧ (g.F a = some (.lst (l.map V.int)) ∨ (∃ o, g.F a = some (.frz o (.lst (l.map V.int)))) ∨ KLst K a (l.map V.int))
  | .dic0, v => ∃ a, v = .ref a ∧ g.F a = some (.dK [])
  | .ref n, v => ∃ a, v = .ref a ∧ g.ad[n]? = some a
  | .fn k, v => v = .ref (T.fn k)
  | .cls k, v => v = .ref (T.cls k)
  | .ty n, v => v = .ty n.name
def RelZs (g : Gh) : List Z → List V → Prop
  | [], vs => vs = []
  | z :: r, vs => ∃ v ws, vs = v :: ws ∧ RelZ g z v ∧ RelZs g r ws
end

/-- later ghosts know more -/
structure LeV (g g' : Gh) : Prop where
  F : ∀ a o, g.F a = some o → g'.F a = some o
  ad : ∀ (n : Nat) (a : Addr), g.ad[n]? = some a → g'.ad[n]? = some a
/-- .. and nothing that is being made was touched -/
structure Le (g g' : Gh) : Prop extends LeV g g' where
  tmp : g'.tmp = g.tmp
variable {K T}
theorem LeV.refl (g : Gh) : LeV g g := ⟨fun _ _ h => h, fun _ _ h => h⟩
theorem Le.refl (g : Gh) : Le g g := ⟨.refl g, rfl⟩
theorem LeV.trans {g g1 g2 : Gh} (a : LeV g g1) (b : LeV g1 g2) : LeV g g2 := ⟨fun x o h => b.F x o (a.F x o h), fun n x h => b.ad n x (a.ad n x h)⟩
theorem Le.trans {g g1 g2 : Gh} (a : Le g g1) (b : Le g1 g2) : Le g g2 := ⟨a.toLeV.trans b.toLeV, b.tmp.trans a.tmp⟩
mutual
theorem RelZ.mono {g g' : Gh} (e : LeV g g') : ∀ {z : Z} {v : V}, RelZ K T g z v → RelZ K T g' z v
  | .non, _, h => h
  | .bl _, _, h => h
  | .int _, _, h => h
  | .str _, _, h => h
  | .rep _, _, h => h
  | .tup _, _, ⟨a, vs, h1, h2, h3⟩ => ⟨a, vs, h1, h2.imp (e.F _ _) id, RelZs.mono e h3⟩
  | .lst _, _, ⟨a, vs, h1, h2, h3⟩ => ⟨a, vs, h1, e.F _ _ h2, RelZs.mono e h3⟩
  | .scr _, _, ⟨a, h1, h2⟩ => ⟨a, h1, h2.imp (e.F _ _) (Or.imp (fun ⟨o, q⟩ => ⟨o, e.F _ _ q⟩) id)⟩
  | .dic0, _, ⟨a, h1, h2⟩ => ⟨a, h1, e.F _ _ h2⟩
  | .ref _, _, ⟨a, h1, h2⟩ => ⟨a, h1, e.ad _ _ h2⟩
  | .fn _, _, h => h
  | .cls _, _, h => h
  | .ty _, _, h => h
theorem RelZs.mono {g g' : Gh} (e : LeV g g') : ∀ {l : List Z} {vs : List V}, RelZs K T g l vs → RelZs K T g' l vs
  | [], _, h => h
  | _ :: _, _, ⟨v, ws, h1, h2, h3⟩ => ⟨v, ws, h1, RelZ.mono e h2, RelZs.mono e h3⟩
end
theorem RelZs.length {g : Gh} : ∀ {l : List Z} {vs : List V}, RelZs K T g l vs → vs.length = l.length
  | [], _, h => by cases h; rfl
  | _ :: _, _, ⟨v, ws, h1, _, h3⟩ => by rw [h1, List.length_cons, List.length_cons, RelZs.length h3]
theorem RelZs.get {g : Gh} : ∀ {l : List Z} {vs : List V} {i : Nat} {z : Z}, RelZs K T g l vs → l[i]? = some z → ∃ v, vs[i]? = some v ∧ RelZ K T g z v
  | [], _, _, _, _, e => by simp at e
  | _ :: _, _, 0, _, ⟨v, ws, h1, h2, _⟩, e => by
    simp at e
    subst e h1
    exact ⟨v, rfl, h2⟩
  | _ :: _, _, i + 1, _, ⟨v, ws, h1, _, h3⟩, e => by
    subst h1
    obtain ⟨w, q1, q2⟩ := RelZs.get (i := i) h3 (by simpa using e)
    exact ⟨w, by simpa using q1, q2⟩
theorem RelZs.append {g : Gh} : ∀ {l m : List Z} {vs ws : List V}, RelZs K T g l vs → RelZs K T g m ws → RelZs K T g (l ++ m) (vs ++ ws)
  | [], _, _, _, h, q => by cases h; exact q
  | _ :: _, _, _, _, ⟨v, ws, h1, h2, h3⟩, q => by
    subst h1
    exact ⟨v, _, rfl, h2, RelZs.append h3 q⟩
theorem RelZs.take {g : Gh} : ∀ {l : List Z} {vs : List V} (n : Nat), RelZs K T g l vs → RelZs K T g (l.take n) (vs.take n)
  | _, _, 0, _ => rfl
  | [], _, _ + 1, h => by cases h; rfl
  | _ :: _, _, n + 1, ⟨v, ws, h1, h2, h3⟩ => by
    subst h1
    exact ⟨v, _, rfl, h2, RelZs.take n h3⟩
theorem RelZs.drop {g : Gh} : ∀ {l : List Z} {vs : List V} (n : Nat), RelZs K T g l vs → RelZs K T g (l.drop n) (vs.drop n)
  | _, _, 0, h => h
  | [], _, _ + 1, h => by cases h; rfl
  | _ :: _, _, n + 1, ⟨v, ws, h1, _, h3⟩ => by
    subst h1
    exact RelZs.drop n h3
theorem RelZs.set {g : Gh} {z : Z} {v : V} (r : RelZ K T g z v) : ∀ {l : List Z} {vs : List V} (i : Nat), RelZs K T g l vs → RelZs K T g (l.set i z) (vs.set i v)
  | [], _, _, h => by cases h; rfl
  | _ :: _, _, 0, ⟨w, ws, h1, _, h3⟩ => by subst h1; exact ⟨v, ws, rfl, r, h3⟩
  | _ :: _, _, i + 1, ⟨w, ws, h1, h2, h3⟩ => by subst h1; exact ⟨w, _, rfl, h2, RelZs.set r i h3⟩

/-- what stands at a live list of the machine -/
def ObjZ (K : PySem.W.Frag) (T : Tab) (g : Gh) : MO → Option HO → Prop
  | .lst l, o => ∃ vs, o = some (.lst vs) ∧ RelZs K T g l vs
  | .dead, _ => True
def MO.live : MO → Bool
  | .lst _ => true
  | .dead => false
/-- the real heap bears the ghost and the machine's lists -/
structure Sim (K : PySem.W.Frag) (T : Tab) (g : Gh) (M : Mem) (H : Hp) : Prop where
  fr : ∀ a o, g.F a = some o → H a = some o
  ob : ∀ (n : Nat) (o : MO), M[n]? = some o → o.live = true → ∃ a, g.ad[n]? = some a ∧ g.F a = none ∧ ObjZ K T g o (H a)
  nd : ∀ (n m : Nat) (o u : MO) (a : Addr), M[n]? = some o → M[m]? = some u → o.live = true → u.live = true → g.ad[n]? = some a → g.ad[m]? = some a → n = m
  len : g.ad.length = M.length
  tp : ∀ p ∈ g.tmp, H p.1 = some p.2 ∧ g.F p.1 = none ∧ ∀ (n : Nat) (o : MO), M[n]? = some o → o.live = true → g.ad[n]? ≠ some p.1
  td : (g.tmp.map (·.1)).Nodup
end

section
variable {K : PySem.W.Frag} {T : Tab} {g : Gh} {M : Mem} {H : Hp}
/-- freeze a new object -/
def Gh.frz (g : Gh) (p : Addr) (o : HO) : Gh := ⟨fun a => if a = p then some o else g.F a, g.ad, g.tmp⟩
def Gh.add (g : Gh) (p : Addr) : Gh := ⟨g.F, g.ad ++ [p], g.tmp⟩
def Gh.tmpS (g : Gh) (l : List (Addr × HO)) : Gh := ⟨g.F, g.ad, l⟩
theorem Sim.noF (S : Sim K T g M H) {p : Addr} (hp : H p = none) : g.F p = none := by
  cases e : g.F p with
  | none => rfl
  | some o =>
    have q := S.fr p o e
    rw [hp] at q
    cases q
theorem Sim.noT (S : Sim K T g M H) {p : Addr} (hp : H p = none) : ∀ q ∈ g.tmp, q.1 ≠ p := fun q hq z => by
  have h := (S.tp q hq).1
  rw [z, hp] at h
  cases h
theorem Le.frz {p : Addr} {o : HO} (hp : g.F p = none) : Le g (g.frz p o) := ⟨⟨fun a u e => by
  have ne : a ≠ p := fun z => by rw [z, hp] at e; cases e
  show (if a = p then some o else g.F a) = some u
  rw [if_neg ne]
  exact e, fun _ _ h => h⟩, rfl⟩
theorem Gh.frz_at {p : Addr} {o : HO} : (g.frz p o).F p = some o := by
  show (if p = p then some o else g.F p) = some o
  rw [if_pos rfl]
theorem ObjZ.mono {g g' : Gh} (e : LeV g g') {o : MO} {x : Option HO} (h : ObjZ K T g o x) : ObjZ K T g' o x := by
  cases o with
  | lst l => obtain ⟨vs, h1, h2⟩ := h; exact ⟨vs, h1, h2.mono e⟩
  | dead => exact trivial
/-- a new frozen object -/
theorem Sim.newF (S : Sim K T g M H) {p : Addr} {o : HO} (hp : H p = none) : Sim K T (g.frz p o) M (upd H p o) := by
  have nF := S.noF hp
  have e := Le.frz (g := g) (o := o) nF
  have live_ne : ∀ (n : Nat) (u : MO) (a : Addr), M[n]? = some u → u.live = true → g.ad[n]? = some a → a ≠ p := fun n u a h1 h2 h3 z => by
    obtain ⟨b, q1, q2, q3⟩ := S.ob n u h1 h2
    rw [h3] at q1
    cases q1
    cases u with
    | dead => cases h2
    | lst l =>
      obtain ⟨vs, q4, _⟩ := q3
      rw [z, hp] at q4
      cases q4
  refine ⟨fun a u h => ?_, fun n u h1 h2 => ?_, S.nd, S.len, fun q hq => ?_, S.td⟩
  · by_cases ha : a = p
    · subst ha
      rw [Gh.frz_at] at h
      rw [upd_same]
      exact h
    · have q : (if a = p then some o else g.F a) = some u := h
      rw [if_neg ha] at q
      rw [upd_ne ha]
      exact S.fr a u q
  · obtain ⟨a, q1, q2, q3⟩ := S.ob n u h1 h2
    have ne := live_ne n u a h1 h2 q1
    refine ⟨a, q1, ?_, ?_⟩
    · show (if a = p then some o else g.F a) = none
      rw [if_neg ne]
      exact q2
    · rw [upd_ne ne]
      exact q3.mono e.toLeV
  · obtain ⟨h1, h2, h3⟩ := S.tp q hq
    have ne := S.noT hp q hq
    refine ⟨by rw [upd_ne ne]; exact h1, ?_, h3⟩
    show (if q.1 = p then some o else g.F q.1) = none
    rw [if_neg ne]
    exact h2
/-- a new list of the machine -/
theorem Sim.newM (S : Sim K T g M H) {p : Addr} {l : List Z} {vs : List V} (hp : H p = none) (r : RelZs K T g l vs) : Sim K T (g.add p) (M ++ [.lst l]) (upd H p (.lst vs)) ∧ Le g (g.add p) ∧ (g.add p).ad[M.length]? = some p := by
  have nF := S.noF hp
  have e : Le g (g.add p) := ⟨⟨fun _ _ h => h, fun n a h => by
    show (g.ad ++ [p])[n]? = some a
    rw [List.getElem?_append_left (List.getElem?_eq_some_iff.mp h).1]
    exact h⟩, rfl⟩
  have at_ : (g.add p).ad[M.length]? = some p := by
    show (g.ad ++ [p])[M.length]? = some p
    rw [List.getElem?_append_right (by rw [S.len]; exact Nat.le_refl _), S.len, Nat.sub_self]
    rfl
  have live_ne : ∀ (n : Nat) (u : MO) (a : Addr), M[n]? = some u → u.live = true → g.ad[n]? = some a → a ≠ p := fun n u a h1 h2 h3 z => by
    obtain ⟨b, q1, q2, q3⟩ := S.ob n u h1 h2
    rw [h3] at q1
    cases q1
    cases u with
    | dead => cases h2
    | lst l =>
      obtain ⟨vs, q4, _⟩ := q3
      rw [z, hp] at q4
      cases q4
  have split : ∀ (n : Nat) (u : MO), (M ++ [.lst l])[n]? = some u → (n < M.length ∧ M[n]? = some u) ∨ (n = M.length ∧ u = .lst l) := fun n u h => by
    by_cases hn : n < M.length
    · rw [List.getElem?_append_left hn] at h
      exact .inl ⟨hn, h⟩
    · rw [List.getElem?_append_right (by omega)] at h
      obtain ⟨h1, h2⟩ := List.getElem?_eq_some_iff.mp h
      have z : n - M.length = 0 := by simpa using h1
      refine .inr ⟨by omega, ?_⟩
      rw [← h2]
      simp [z]
  have old : ∀ (n : Nat) (a : Addr), n < M.length → (g.add p).ad[n]? = some a → g.ad[n]? = some a := fun n a hn h => by
    have q : (g.ad ++ [p])[n]? = some a := h
    rw [List.getElem?_append_left (by rw [S.len]; exact hn)] at q
    exact q
  refine ⟨⟨fun a u h => ?_, fun n u h1 h2 => ?_, fun n m u w a h1 h2 l1 l2 r1 r2 => ?_, ?_, fun q hq => ?_, S.td⟩, e, at_⟩
  · have ne : a ≠ p := fun z => by
      have q : g.F a = some u := h
      rw [z, nF] at q
      cases q
    rw [upd_ne ne]
    exact S.fr a u h
  · rcases split n u h1 with ⟨hn, h1⟩ | ⟨rfl, rfl⟩
    · obtain ⟨a, q1, q2, q3⟩ := S.ob n u h1 h2
      exact ⟨a, e.ad _ _ q1, q2, by rw [upd_ne (live_ne n u a h1 h2 q1)]; exact q3.mono e.toLeV⟩
    · exact ⟨p, at_, nF, vs, upd_same, r.mono e.toLeV⟩
  · rcases split n u h1 with ⟨hn, h1⟩ | ⟨rfl, rfl⟩
    · rcases split m w h2 with ⟨hm, h2⟩ | ⟨rfl, rfl⟩
      · exact S.nd n m u w a h1 h2 l1 l2 (old n a hn r1) (old m a hm r2)
      · rw [at_] at r2
        cases r2
        exact absurd rfl (live_ne n u _ h1 l1 (old n _ hn r1))
    · rcases split m w h2 with ⟨hm, h2⟩ | ⟨rfl, rfl⟩
      · rw [at_] at r1
        cases r1
        exact absurd rfl (live_ne m w _ h2 l2 (old m _ hm r2))
      · rfl
  · show (g.ad ++ [p]).length = (M ++ [MO.lst l]).length
    rw [List.length_append, List.length_append, S.len]
    rfl
  · obtain ⟨h1, h2, h3⟩ := S.tp q hq
    have ne := S.noT hp q hq
    refine ⟨by rw [upd_ne ne]; exact h1, h2, fun n u z1 z2 z3 => ?_⟩
    rcases split n u z1 with ⟨hn, z1⟩ | ⟨rfl, rfl⟩
    · exact h3 n u z1 z2 (old n _ hn z3)
    · rw [at_] at z3
      cases z3
      exact ne rfl
/-- a list of the machine is read -/
theorem Sim.get (S : Sim K T g M H) {n : Nat} {l : List Z} (h : M[n]? = some (.lst l)) : ∃ (a : Addr) (vs : List V), g.ad[n]? = some a ∧ g.F a = none ∧ H a = some (HO.lst vs) ∧ RelZs K T g l vs := by
  obtain ⟨a, q1, q2, vs, q3, q4⟩ := S.ob n _ h rfl
  exact ⟨a, vs, q1, q2, q3, q4⟩
/-- .. is written -/
theorem Sim.put (S : Sim K T g M H) {n : Nat} {l l' : List Z} {vs' : List V} {a : Addr} (h : M[n]? = some (.lst l)) (ha : g.ad[n]? = some a) (r : RelZs K T g l' vs') : Sim K T g (M.set n (.lst l')) (upd H a (.lst vs')) := by
  obtain ⟨b, vs, q1, q2, q3, q4⟩ := S.get h
  rw [ha] at q1
  cases q1
  have hn : n < M.length := (List.getElem?_eq_some_iff.mp h).1
  have was : ∀ (m : Nat) (u : MO), (M.set n (.lst l'))[m]? = some u → u.live = true → (m = n ∧ u = .lst l') ∨ (m ≠ n ∧ M[m]? = some u) := fun m u e _ => by
    by_cases hm : m = n
    · subst hm
      rw [List.getElem?_set_self hn] at e
      cases e
      exact .inl ⟨rfl, rfl⟩
    · rw [List.getElem?_set_ne (Ne.symm hm)] at e
      exact .inr ⟨hm, e⟩
  refine ⟨fun c u e => ?_, fun m u e lv => ?_, fun m k u w c h1 h2 l1 l2 r1 r2 => ?_, by rw [List.length_set]; exact S.len, fun q hq => ?_, S.td⟩
  · have ne : c ≠ a := fun z => by rw [z, q2] at e; cases e
    rw [upd_ne ne]
    exact S.fr c u e
  · rcases was m u e lv with ⟨rfl, rfl⟩ | ⟨hm, e⟩
    · exact ⟨a, ha, q2, vs', upd_same, r⟩
    · obtain ⟨c, p1, p2, p3⟩ := S.ob m u e lv
      have ne : c ≠ a := fun z => by
        subst z
        exact hm (S.nd m n u _ c e h lv rfl p1 ha)
      exact ⟨c, p1, p2, by rw [upd_ne ne]; exact p3⟩
  · rcases was m u h1 l1 with ⟨em, _⟩ | ⟨hm, h1⟩
    · rcases was k w h2 l2 with ⟨ek, _⟩ | ⟨hk, h2⟩
      · rw [em, ek]
      · rw [em] at r1
        exact absurd (S.nd n k _ w c h h2 rfl l2 r1 r2).symm hk
    · rcases was k w h2 l2 with ⟨ek, _⟩ | ⟨hk, h2⟩
      · rw [ek] at r2
        exact absurd (S.nd m n u _ c h1 h l1 rfl r1 r2) hm
      · exact S.nd m k u w c h1 h2 l1 l2 r1 r2
  · obtain ⟨h1, h2, h3⟩ := S.tp q hq
    have ne : q.1 ≠ a := fun z => h3 n _ h rfl (by rw [z]; exact ha)
    refine ⟨by rw [upd_ne ne]; exact h1, h2, fun m u z1 z2 z3 => ?_⟩
    rcases was m u z1 z2 with ⟨em, _⟩ | ⟨hm, z1⟩
    · rw [em] at z3
      exact h3 n _ h rfl z3
    · exact h3 m u z1 z2 z3
/-- .. is frozen for good -/
theorem Sim.freeze (S : Sim K T g M H) {n : Nat} {l : List Z} (h : M[n]? = some (.lst l)) : ∃ (a : Addr) (vs : List V), g.ad[n]? = some a ∧ RelZs K T g l vs ∧ Sim K T (g.frz a (.lst vs)) (M.set n .dead) H ∧ Le g (g.frz a (.lst vs)) := by
  obtain ⟨a, vs, q1, q2, q3, q4⟩ := S.get h
  have hn : n < M.length := (List.getElem?_eq_some_iff.mp h).1
  have e := Le.frz (g := g) (o := .lst vs) q2
  have was : ∀ (m : Nat) (u : MO), (M.set n .dead)[m]? = some u → u.live = true → m ≠ n ∧ M[m]? = some u := fun m u e lv => by
    by_cases hm : m = n
    · subst hm
      rw [List.getElem?_set_self hn] at e
      cases e
      cases lv
    · rw [List.getElem?_set_ne (Ne.symm hm)] at e
      exact ⟨hm, e⟩
  refine ⟨a, vs, q1, q4, ⟨fun c u z => ?_, fun m u z lv => ?_, fun m k u w c h1 h2 l1 l2 r1 r2 => ?_, by rw [List.length_set]; exact S.len, fun q hq => ?_, S.td⟩, e⟩
  · by_cases hc : c = a
    · subst hc
      rw [Gh.frz_at] at z
      cases z
      exact q3
    · have q : (if c = a then some (HO.lst vs) else g.F c) = some u := z
      rw [if_neg hc] at q
      exact S.fr c u q
  · obtain ⟨hm, z⟩ := was m u z lv
    obtain ⟨c, p1, p2, p3⟩ := S.ob m u z lv
    have ne : c ≠ a := fun y => by
      subst y
      exact hm (S.nd m n u _ c z h lv rfl p1 q1)
    refine ⟨c, p1, ?_, p3.mono e.toLeV⟩
    show (if c = a then some (HO.lst vs) else g.F c) = none
    rw [if_neg ne]
    exact p2
  · exact S.nd m k u w c (was m u h1 l1).2 (was k w h2 l2).2 l1 l2 r1 r2
  · obtain ⟨h1, h2, h3⟩ := S.tp q hq
    have ne : q.1 ≠ a := fun z => h3 n _ h rfl (by rw [z]; exact q1)
    refine ⟨h1, ?_, fun m u z1 z2 z3 => h3 m u (was m u z1 z2).2 z2 z3⟩
    show (if q.1 = a then some (HO.lst vs) else g.F q.1) = none
    rw [if_neg ne]
    exact h2

/-! ### what is being made -/
/-- a new object that is being made -/
theorem Sim.begin (S : Sim K T g M H) {p : Addr} {o : HO} (hp : H p = none) : Sim K T (g.tmpS ((p, o) :: g.tmp)) M (upd H p o) := by
  have nF := S.noF hp
  have live_ne : ∀ (n : Nat) (u : MO) (a : Addr), M[n]? = some u → u.live = true → g.ad[n]? = some a → a ≠ p := fun n u a h1 h2 h3 z => by
    obtain ⟨b, q1, q2, q3⟩ := S.ob n u h1 h2
    rw [h3] at q1
    cases q1
    cases u with
    | dead => cases h2
    | lst l =>
      obtain ⟨vs, q4, _⟩ := q3
      rw [z, hp] at q4
      cases q4
  refine ⟨fun a u h => ?_, fun n u h1 h2 => ?_, S.nd, S.len, fun q hq => ?_, ?_⟩
  · have ne : a ≠ p := fun z => by
      have q : g.F a = some u := h
      rw [z, nF] at q
      cases q
    rw [upd_ne ne]
    exact S.fr a u h
  · obtain ⟨a, q1, q2, q3⟩ := S.ob n u h1 h2
    refine ⟨a, q1, q2, ?_⟩
    rw [upd_ne (live_ne n u a h1 h2 q1)]
    exact ObjZ.mono (g := g) (g' := g.tmpS ((p, o) :: g.tmp)) ⟨fun _ _ h => h, fun _ _ h => h⟩ q3
  · rcases List.mem_cons.mp hq with e | hq
    · rw [e]
      exact ⟨upd_same, nF, fun n u z1 z2 z3 => live_ne n u p z1 z2 z3 rfl⟩
    · obtain ⟨h1, h2, h3⟩ := S.tp q hq
      exact ⟨by rw [upd_ne (S.noT hp q hq)]; exact h1, h2, h3⟩
  · show ((p, o) :: g.tmp).map (·.1) |>.Nodup
    rw [List.map_cons, List.nodup_cons]
    refine ⟨fun z => ?_, S.td⟩
    obtain ⟨q, hq, e⟩ := List.mem_map.mp z
    exact S.noT hp q hq e
/-- it is changed -/
theorem Sim.change (S : Sim K T g M H) {p : Addr} {o o' : HO} {t : List (Addr × HO)} (ht : g.tmp = (p, o) :: t) : Sim K T (g.tmpS ((p, o') :: t)) M (upd H p o') := by
  obtain ⟨h1, h2, h3⟩ := S.tp (p, o) (by rw [ht]; exact List.mem_cons_self)
  have nd : p ∉ t.map (·.1) ∧ (t.map (·.1)).Nodup := by
    have q := S.td
    rw [ht, List.map_cons, List.nodup_cons] at q
    exact q
  refine ⟨fun a u h => ?_, fun n u e1 e2 => ?_, S.nd, S.len, fun q hq => ?_, ?_⟩
  · have ne : a ≠ p := fun z => by
      have q : g.F a = some u := h
      rw [z, h2] at q
      cases q
    rw [upd_ne ne]
    exact S.fr a u h
  · obtain ⟨a, q1, q2, q3⟩ := S.ob n u e1 e2
    refine ⟨a, q1, q2, ?_⟩
    rw [upd_ne (fun z => h3 n u e1 e2 (by rw [← z]; exact q1))]
    exact ObjZ.mono (g := g) (g' := g.tmpS ((p, o') :: t)) ⟨fun _ _ h => h, fun _ _ h => h⟩ q3
  · rcases List.mem_cons.mp hq with e | hq
    · rw [e]
      exact ⟨upd_same, h2, h3⟩
    · obtain ⟨k1, k2, k3⟩ := S.tp q (by rw [ht]; exact List.mem_cons_of_mem _ hq)
      have ne : q.1 ≠ p := fun z => nd.1 (by rw [← z]; exact List.mem_map_of_mem hq)
      exact ⟨by rw [upd_ne ne]; exact k1, k2, k3⟩
  · show ((p, o') :: t).map (·.1) |>.Nodup
    rw [List.map_cons, List.nodup_cons]
    exact nd
/-- it is frozen and handed out -/
theorem Sim.done (S : Sim K T g M H) {p : Addr} {o : HO} {t : List (Addr × HO)} (ht : g.tmp = (p, o) :: t) : Sim K T ((g.frz p o).tmpS t) M H ∧ LeV g ((g.frz p o).tmpS t) := by
  obtain ⟨h1, h2, h3⟩ := S.tp (p, o) (by rw [ht]; exact List.mem_cons_self)
  have e := (Le.frz (g := g) (p := p) (o := o) h2).toLeV
  have e2 : LeV g ((g.frz p o).tmpS t) := ⟨e.F, e.ad⟩
  have nd : p ∉ t.map (·.1) ∧ (t.map (·.1)).Nodup := by
    have q := S.td
    rw [ht, List.map_cons, List.nodup_cons] at q
    exact q
  refine ⟨⟨fun a u h => ?_, fun n u e1 e3 => ?_, S.nd, S.len, fun q hq => ?_, nd.2⟩, e2⟩
  · by_cases ha : a = p
    · rw [ha] at h ⊢
      have q : (g.frz p o).F p = some u := h
      rw [Gh.frz_at] at q
      rw [← q]
      exact h1
    · have q : (if a = p then some o else g.F a) = some u := h
      rw [if_neg ha] at q
      exact S.fr a u q
  · obtain ⟨a, q1, q2, q3⟩ := S.ob n u e1 e3
    have ne : a ≠ p := fun z => h3 n u e1 e3 (by rw [← z]; exact q1)
    refine ⟨a, q1, ?_, q3.mono e2⟩
    show (if a = p then some o else g.F a) = none
    rw [if_neg ne]
    exact q2
  · obtain ⟨k1, k2, k3⟩ := S.tp q (by rw [ht]; exact List.mem_cons_of_mem _ hq)
    have ne : q.1 ≠ p := fun z => nd.1 (by rw [← z]; exact List.mem_map_of_mem hq)
    refine ⟨k1, ?_, k3⟩
    show (if q.1 = p then some o else g.F q.1) = none
    rw [if_neg ne]
    exact k2
/-- it becomes a list of the machine -/
theorem Sim.doneM (S : Sim K T g M H) {p : Addr} {l : List Z} {vs : List V} {t : List (Addr × HO)} (ht : g.tmp = (p, .lst vs) :: t) (r : RelZs K T g l vs) :
    Sim K T ((g.add p).tmpS t) (M ++ [.lst l]) H ∧ LeV g ((g.add p).tmpS t) ∧ ((g.add p).tmpS t).ad[M.length]? = some p := by
  obtain ⟨h1, h2, h3⟩ := S.tp (p, .lst vs) (by rw [ht]; exact List.mem_cons_self)
  have e : LeV g ((g.add p).tmpS t) := ⟨fun _ _ h => h, fun n a h => by
    show (g.ad ++ [p])[n]? = some a
    rw [List.getElem?_append_left (List.getElem?_eq_some_iff.mp h).1]
    exact h⟩
  have at_ : ((g.add p).tmpS t).ad[M.length]? = some p := by
    show (g.ad ++ [p])[M.length]? = some p
    rw [List.getElem?_append_right (by rw [S.len]; exact Nat.le_refl _), S.len, Nat.sub_self]
    rfl
  have nd : p ∉ t.map (·.1) ∧ (t.map (·.1)).Nodup := by
    have q := S.td
    rw [ht, List.map_cons, List.nodup_cons] at q
    exact q
  have split : ∀ (n : Nat) (u : MO), (M ++ [.lst l])[n]? = some u → (n < M.length ∧ M[n]? = some u) ∨ (n = M.length ∧ u = .lst l) := fun n u h => by
    by_cases hn : n < M.length
    · rw [List.getElem?_append_left hn] at h
      exact .inl ⟨hn, h⟩
    · rw [List.getElem?_append_right (by omega)] at h
      obtain ⟨h1, h2⟩ := List.getElem?_eq_some_iff.mp h
      have z : n - M.length = 0 := by simpa using h1
      refine .inr ⟨by omega, ?_⟩
      rw [← h2]
      simp [z]
  have old : ∀ (n : Nat) (a : Addr), n < M.length → ((g.add p).tmpS t).ad[n]? = some a → g.ad[n]? = some a := fun n a hn h => by
    have q : (g.ad ++ [p])[n]? = some a := h
    rw [List.getElem?_append_left (by rw [S.len]; exact hn)] at q
    exact q
  refine ⟨⟨S.fr, fun n u e1 e2 => ?_, fun n m u w a e1 e2 l1 l2 r1 r2 => ?_, ?_, fun q hq => ?_, nd.2⟩, e, at_⟩
  · rcases split n u e1 with ⟨hn, e1⟩ | ⟨rfl, rfl⟩
    · obtain ⟨a, q1, q2, q3⟩ := S.ob n u e1 e2
      exact ⟨a, e.ad _ _ q1, q2, q3.mono e⟩
    · exact ⟨p, at_, h2, vs, h1, r.mono e⟩
  · rcases split n u e1 with ⟨hn, e1⟩ | ⟨en, eu⟩
    · rcases split m w e2 with ⟨hm, e2⟩ | ⟨em, ew⟩
      · exact S.nd n m u w a e1 e2 l1 l2 (old n a hn r1) (old m a hm r2)
      · rw [em, at_] at r2
        cases r2
        exact absurd (old n _ hn r1) (h3 n u e1 l1)
    · rcases split m w e2 with ⟨hm, e2⟩ | ⟨em, ew⟩
      · rw [en, at_] at r1
        cases r1
        exact absurd (old m _ hm r2) (h3 m w e2 l2)
      · rw [en, em]
  · show (g.ad ++ [p]).length = (M ++ [MO.lst l]).length
    rw [List.length_append, List.length_append, S.len]
    rfl
  · obtain ⟨k1, k2, k3⟩ := S.tp q (by rw [ht]; exact List.mem_cons_of_mem _ hq)
    have ne : q.1 ≠ p := fun z => nd.1 (by rw [← z]; exact List.mem_map_of_mem hq)
    refine ⟨k1, k2, fun n u z1 z2 z3 => ?_⟩
    rcases split n u z1 with ⟨hn, z1⟩ | ⟨en, eu⟩
    · exact k3 n u z1 z2 (old n _ hn z3)
    · rw [en, at_] at z3
      cases z3
      exact ne rfl
end
end ZM
end
section
/-! ZM, part B: readings of machine terms, operators on values. -/
namespace ZM
open PySem L2 PyProof.Rows

/-- results of operators: none is stuck -/
abbrev VO (α : Type) := Option (α × Mem)
def ofO {α : Type} : VO α → Res α
  | some (a, M) => .ok a M
  | none => .stuck

section
variable (K : PySem.W.Frag) (T : Tab)
/-- the slots that the machine knows -/
structure Slots (g : Gh) (η : Sl) (σ : St) : Prop where
  len : η.length = σ.length
  at_ : ∀ (i : Nat) (z : Z), η[i]? = some (some z) → ∃ v, σ[i]? = some (some v) ∧ RelZ K T g z v
/-- wanted behind a result -/
def Fin (g : Gh) (Q : VK) : Z → Mem → Prop := fun a M' => ∀ (g' : Gh) (H' : Hp) (v : V), Le g g' → Sim K T g' M' H' → RelZ K T g' a v → Q v H'
def FinB (g : Gh) (Q : Bool → Hp → Prop) : Bool → Mem → Prop := fun a M' => ∀ (g' : Gh) (H' : Hp), Le g g' → Sim K T g' M' H' → Q a H'
def FinA (g : Gh) (Q : List V → Hp → Prop) : List Z → Mem → Prop := fun a M' => ∀ (g' : Gh) (H' : Hp) (vs : List V), Le g g' → Sim K T g' M' H' → RelZs K T g' a vs → Q vs H'
/-- wanted of an exception -/
def Out (W : XK) (g : Gh) : Nat → Z → Mem → Prop := fun k a M' => ∀ (g' : Gh) (H' : Hp) (d : Addr) (u : V), Le g g' → Sim K T g' M' H' → H' d = some (.xd [("value", u)]) → RelZ K T g' a u → W (.ref (T.cls k)) (some d) H'
abbrev ZE := Sl → Mem → Res Z
abbrev ZT := Sl → Mem → Res Bool
abbrev ZL := Sl → Mem → Res (List Z)
def TZ (W : XK) (z : ZE) : TE := fun σ H Q => ∃ (g : Gh) (M : Mem) (η : Sl), Sim K T g M H ∧ Slots K T g η σ ∧ (z η M).To (Fin K T g Q) (Out K T W g)
def TB (W : XK) (z : ZT) : TT := fun σ H Q => ∃ (g : Gh) (M : Mem) (η : Sl), Sim K T g M H ∧ Slots K T g η σ ∧ (z η M).To (FinB K T g Q) (Out K T W g)
def TL (W : XK) (z : ZL) : TA := fun σ H Q => ∃ (g : Gh) (M : Mem) (η : Sl), Sim K T g M H ∧ Slots K T g η σ ∧ (z η M).To (FinA K T g Q) (Out K T W g)
/-- a value's operator, two places -/
def Op2 (r : R2) (sem : Z → Z → Mem → VO Z) : Prop := ∀ (g : Gh) (M : Mem) (H : Hp) (x y : Z) (u v : V) (a : Z) (M' : Mem) (Q : VK), Sim K T g M H → RelZ K T g x u → RelZ K T g y v → sem x y M = some (a, M') → Fin K T g Q a M' → r u v H Q
def Op1 (r : V → Hp → VK → Prop) (sem : Z → Mem → VO Z) : Prop := ∀ (g : Gh) (M : Mem) (H : Hp) (x : Z) (u : V) (a : Z) (M' : Mem) (Q : VK), Sim K T g M H → RelZ K T g x u → sem x M = some (a, M') → Fin K T g Q a M' → r u H Q
def OpN (r : List V → Hp → VK → Prop) (sem : List Z → Mem → VO Z) : Prop := ∀ (g : Gh) (M : Mem) (H : Hp) (xs : List Z) (us : List V) (a : Z) (M' : Mem) (Q : VK), Sim K T g M H → RelZs K T g xs us → sem xs M = some (a, M') → Fin K T g Q a M' → r us H Q
end

section
variable {K : PySem.W.Frag} {T : Tab} {g g1 g' : Gh} {η : Sl} {σ : St} {W : XK}
theorem Slots.mono (L : Slots K T g η σ) (e : LeV g g') : Slots K T g' η σ := ⟨L.len, fun i z h => let ⟨v, h1, h2⟩ := L.at_ i z h; ⟨v, h1, h2.mono e⟩⟩
theorem Fin.le {Q : VK} {a : Z} {M : Mem} (h : Fin K T g Q a M) (e : Le g g1) : Fin K T g1 Q a M := fun g' H' v e' => h g' H' v (e.trans e')
theorem FinB.le {Q : Bool → Hp → Prop} {a : Bool} {M : Mem} (h : FinB K T g Q a M) (e : Le g g1) : FinB K T g1 Q a M := fun g' H' e' => h g' H' (e.trans e')
theorem FinA.le {Q : List V → Hp → Prop} {a : List Z} {M : Mem} (h : FinA K T g Q a M) (e : Le g g1) : FinA K T g1 Q a M := fun g' H' v e' => h g' H' v (e.trans e')
theorem Out.le {k : Nat} {a : Z} {M : Mem} (h : Out K T W g k a M) (e : Le g g1) : Out K T W g1 k a M := fun g' H' d u e' => h g' H' d u (e.trans e')
theorem To.le {r : Res Z} {Q : VK} (h : r.To (Fin K T g Q) (Out K T W g)) (e : Le g g1) : r.To (Fin K T g1 Q) (Out K T W g1) := h.imp (fun _ _ q => q.le e) (fun _ _ _ q => q.le e)
theorem ToB.le {r : Res Bool} {Q : Bool → Hp → Prop} (h : r.To (FinB K T g Q) (Out K T W g)) (e : Le g g1) : r.To (FinB K T g1 Q) (Out K T W g1) := h.imp (fun _ _ q => q.le e) (fun _ _ _ q => q.le e)
theorem ToA.le {r : Res (List Z)} {Q : List V → Hp → Prop} (h : r.To (FinA K T g Q) (Out K T W g)) (e : Le g g1) : r.To (FinA K T g1 Q) (Out K T W g1) := h.imp (fun _ _ q => q.le e) (fun _ _ _ q => q.le e)
theorem To.ofO {α : Type} {r : VO α} {P : α → Mem → Prop} {E : Nat → Z → Mem → Prop} (h : (ZM.ofO r).To P E) : ∃ a M', r = some (a, M') ∧ P a M' := by
  cases r with
  | none => exact h.elim
  | some p => exact ⟨p.1, p.2, rfl, h⟩

/-- the reading of a term goes on in a reading behind it -/
theorem TZ.go {z : ZE} {k : Sl → Z → Mem → Res Z} {H : Hp} {Q Q' : VK}
    (h : TZ K T W (fun η M => (z η M).bind (k η)) σ H Q')
    (c : ∀ (g1 : Gh) (M1 : Mem) (η : Sl) (H1 : Hp) (a : Z) (v : V), Sim K T g1 M1 H1 → Slots K T g1 η σ → RelZ K T g1 a v → (k η a M1).To (Fin K T g1 Q') (Out K T W g1) → Q v H1) : TZ K T W z σ H Q := by
  obtain ⟨g, M, η, S, L, h⟩ := h
  refine ⟨g, M, η, S, L, h.bind.imp (fun a M1 h1 g1 H1 v e1 S1 r1 => ?_) fun _ _ _ q => q⟩
  exact c g1 M1 η H1 a v S1 (L.mono e1.toLeV) r1 (To.le h1 e1)
end

/-! ### expressions -/
section
variable {X : Cx} {T : Tab} {W : XK} {a b : Expr} {za zb : ZE} {pos : Pos}
theorem PE.imp {e : Expr} {t t' : TE} (h : PE X e t) (i : ∀ σ H Q, t' σ H Q → t σ H Q) : PE X e t' := ⟨fun pins s σ H Q I q => h.run pins s σ H Q I (i σ H Q q)⟩
def zVar (i : Nat) : ZE := fun η M => match η[i]? with
  | some (some z) => .ok z M
  | _ => .stuck
def zC (z : Z) : ZE := fun _ M => .ok z M
def zOp (sem : Z → Z → Mem → VO Z) (za zb : ZE) : ZE := fun η M => (za η M).bind fun x M1 => (zb η M1).bind fun y M2 => ofO (sem x y M2)
def zUn (sem : Z → Mem → VO Z) (za : ZE) : ZE := fun η M => (za η M).bind fun x M1 => ofO (sem x M1)
theorem z_var {i : Nat} {σ : St} {H : Hp} {Q : VK} {K : PySem.W.Frag} (h : TZ K T W (zVar i) σ H Q) : tVar i σ H Q := by
  obtain ⟨g, M, η, S, L, h⟩ := h
  unfold zVar at h
  split at h
  · rename_i z e
    obtain ⟨v, h1, h2⟩ := L.at_ i z e
    exact ⟨v, h1, h g H v (Le.refl g) S h2⟩
  · exact h.elim
theorem z_c {z : Z} {v : V} {σ : St} {H : Hp} {Q : VK} {K : PySem.W.Frag} (r : ∀ g, RelZ K T g z v) (h : TZ K T W (zC z) σ H Q) : tC v σ H Q := by
  obtain ⟨g, M, η, S, L, h⟩ := h
  exact h g H v (Le.refl g) S (r g)
theorem z_op {sem : Z → Z → Mem → VO Z} {r : R2} {K : PySem.W.Frag} (o : Op2 K T r sem) {σ : St} {H : Hp} {Q : VK} (h : TZ K T W (zOp sem za zb) σ H Q) : tOp r (TZ K T W za) (TZ K T W zb) σ H Q := by
  refine TZ.go (k := fun η x M1 => (zb η M1).bind fun y M2 => ofO (sem x y M2)) h fun g1 M1 η H1 x u S1 L1 r1 h1 => ?_
  refine ⟨g1, M1, η, S1, L1, h1.bind.imp (fun y M2 h2 g2 H2 v e2 S2 r2 => ?_) fun _ _ _ q => q⟩
  obtain ⟨c, M', e, f⟩ := To.ofO h2
  exact o g2 M2 H2 x y u v c M' Q S2 (r1.mono e2.toLeV) r2 e (f.le e2)
theorem z_un {sem : Z → Mem → VO Z} {r : V → Hp → VK → Prop} {K : PySem.W.Frag} (o : Op1 K T r sem) {σ : St} {H : Hp} {Q : VK} (h : TZ K T W (zUn sem za) σ H Q) : tUn r (TZ K T W za) σ H Q := by
  refine TZ.go (k := fun _ x M1 => ofO (sem x M1)) h fun g1 M1 η H1 x u S1 L1 r1 h1 => ?_
  obtain ⟨c, M', e, f⟩ := To.ofO h1
  exact o g1 M1 H1 x u c M' Q S1 r1 e f
end
end ZM
end
section
/-! ZM, part C: operators by values. -/
namespace ZM
open PySem L2 PyProof.Rows

/-! ### reading data through the machine's lists -/
def allO {α : Type} : List (Option α) → Option (List α)
  | [] => some []
  | some x :: r => match allO r with
    | some xs => some (x :: xs)
    | none => none
  | none :: _ => none
/-- the data of a value, lists read to the depth -/
def datM : Nat → Mem → Z → Option PyData
  | 0, _, z => match z with
    | .non => some .none
    | .bl b => some (.bool b)
    | .int i => some (.int i)
    | .str s => some (.str s)
    | .rep d => some (.str d.shown)
    | _ => none
  | d + 1, M, z => match z with
    | .non => some .none
    | .bl b => some (.bool b)
    | .int i => some (.int i)
    | .str s => some (.str s)
    | .rep d => some (.str d.shown)
    | .tup l => (allO (l.map (datM d M))).map .tuple
    | .lst l => (allO (l.map (datM d M))).map .list
    | .scr l => some (.list (l.map .int))
    | .ref n => match M[n]? with
      | some (.lst l) => (allO (l.map (datM d M))).map .list
      | _ => none
    | _ => none

section
variable {K : PySem.W.Frag} {T : Tab} {g : Gh} {M : Mem} {H : Hp}
theorem allO_cons {α : Type} {x : Option α} {r : List (Option α)} {ys : List α} (h : allO (x :: r) = some ys) : ∃ y zs, x = some y ∧ allO r = some zs ∧ ys = y :: zs := by
  cases x with
  | none => exact absurd h (by simp [allO])
  | some y =>
    unfold allO at h
    cases e : allO r with
    | none => rw [e] at h; cases h
    | some zs =>
      rw [e] at h
      cases h
      exact ⟨y, zs, rfl, rfl, rfl⟩
theorem dpInts : ∀ (l : List Int), DpAll K H (l.map V.int) (l.map PyData.int)
  | [] => .nil
  | i :: r => .cons (.int i) (dpInts r)
theorem sqL_of {a : Addr} {vs : List V} (h : H a = some (.lst vs)) : SqL K H a vs := .inl (.inl h)
theorem sqL_scr (S : Sim K T g M H) {a : Addr} {l : List Int} (h : g.F a = some (.lst (l.map V.int)) ∨ (∃ o, g.F a = some (.frz o (.lst (l.map V.int)))) ∨ KLst K a (l.map V.int)) : SqL K H a (l.map V.int) := by
  rcases h with h | ⟨o, h⟩ | h
  · exact .inl (.inl (S.fr _ _ h))
  · exact .inl (.inr ⟨o, S.fr _ _ h⟩)
  · exact .inr h
theorem sqT_of (S : Sim K T g M H) {a : Addr} {vs : List V} (h : g.F a = some (.tup vs) ∨ KTup K a vs) : SqT K H a vs := by
  rcases h with h | h
  · exact .inl (.inl (S.fr _ _ h))
  · exact .inr h
theorem dpAll_of {f : Z → Option PyData} (hf : ∀ z v d, RelZ K T g z v → f z = some d → Dp K H v d) : ∀ {l : List Z} {vs : List V} {ds : List PyData}, RelZs K T g l vs → allO (l.map f) = some ds → DpAll K H vs ds
  | [], _, _, r, h => by
    cases r
    cases h
    exact .nil
  | z :: l, _, _, ⟨v, ws, e, r1, r2⟩, h => by
    subst e
    obtain ⟨y, zs, h1, h2, rfl⟩ := allO_cons (by simpa using h)
    exact .cons (hf z v y r1 h1) (dpAll_of hf r2 h2)
theorem dp_of (S : Sim K T g M H) : ∀ (n : Nat) (z : Z) (v : V) (d : PyData), RelZ K T g z v → datM n M z = some d → Dp K H v d
  | 0, z, v, d, r, h => by
    cases z <;> simp only [datM] at h <;> cases h <;> (try cases r) <;> constructor
  | n + 1, z, v, d, r, h => by
    have ih := dp_of S n
    cases z with
    | non => cases h; cases r; exact .non
    | bl b => cases h; cases r; exact .bl b
    | int i => cases h; cases r; exact .int i
    | str s => cases h; cases r; exact .str s
    | rep t => cases h; cases r; exact .str _
    | tup l =>
      obtain ⟨a, vs, rfl, ha, rs⟩ := r
      obtain ⟨ds, e, rfl⟩ := Option.map_eq_some_iff.mp h
      exact .tup (sqT_of S ha) (dpAll_of ih rs e)
    | lst l =>
      obtain ⟨a, vs, rfl, ha, rs⟩ := r
      obtain ⟨ds, e, rfl⟩ := Option.map_eq_some_iff.mp h
      exact .lst (sqL_of (S.fr _ _ ha)) (dpAll_of ih rs e)
    | scr l =>
      obtain ⟨a, rfl, ha⟩ := r
      cases h
      exact .lst (sqL_scr S ha) (dpInts l)
    | ref k =>
      obtain ⟨a, rfl, ha⟩ := r
      simp only [datM] at h
      split at h
      · rename_i l e
        obtain ⟨b, vs, q1, _, q3, q4⟩ := S.get e
        rw [ha] at q1
        cases q1
        obtain ⟨ds, e2, rfl⟩ := Option.map_eq_some_iff.mp h
        exact .lst (sqL_of q3) (dpAll_of ih q4 e2)
      · cases h
    | dic0 => simp only [datM] at h; cases h
    | fn _ => simp only [datM] at h; cases h
    | cls _ => simp only [datM] at h; cases h
    | ty _ => simp only [datM] at h; cases h

/-- the items of a list value, wherever it stands -/
def itsL (M : Mem) : Z → Option (List Z)
  | .lst l => some l
  | .scr l => some (l.map .int)
  | .ref n => match M[n]? with
    | some (.lst l) => some l
    | _ => none
  | _ => none
/-- .. of one that is no script -/
def ownL (M : Mem) : Z → Option (List Z)
  | .lst l => some l
  | .ref n => match M[n]? with
    | some (.lst l) => some l
    | _ => none
  | _ => none
theorem relInts : ∀ (l : List Int), RelZs K T g (l.map Z.int) (l.map V.int)
  | [] => rfl
  | i :: r => ⟨_, _, rfl, rfl, relInts r⟩
theorem itsL_ok (S : Sim K T g M H) {z : Z} {v : V} {l : List Z} (r : RelZ K T g z v) (h : itsL M z = some l) : ∃ a vs, v = .ref a ∧ SqL K H a vs ∧ RelZs K T g l vs := by
  cases z <;> simp only [itsL] at h <;> try cases h
  · obtain ⟨a, vs, rfl, ha, rs⟩ := r
    exact ⟨a, vs, rfl, sqL_of (S.fr _ _ ha), rs⟩
  · obtain ⟨a, rfl, ha⟩ := r
    exact ⟨a, _, rfl, sqL_scr S ha, relInts _⟩
  · rename_i n
    obtain ⟨a, rfl, ha⟩ := r
    split at h
    · rename_i l' e
      cases h
      obtain ⟨b, vs, q1, _, q3, q4⟩ := S.get e
      rw [ha] at q1
      cases q1
      exact ⟨a, vs, rfl, sqL_of q3, q4⟩
    · cases h
theorem ownL_ok (S : Sim K T g M H) {z : Z} {v : V} {l : List Z} (r : RelZ K T g z v) (h : ownL M z = some l) : ∃ a vs, v = .ref a ∧ H a = some (.lst vs) ∧ RelZs K T g l vs := by
  cases z <;> simp only [ownL] at h <;> try cases h
  · obtain ⟨a, vs, rfl, ha, rs⟩ := r
    exact ⟨a, vs, rfl, S.fr _ _ ha, rs⟩
  · rename_i n
    obtain ⟨a, rfl, ha⟩ := r
    split at h
    · rename_i l' e
      cases h
      obtain ⟨b, vs, q1, _, q3, q4⟩ := S.get e
      rw [ha] at q1
      cases q1
      exact ⟨a, vs, rfl, q3, q4⟩
    · cases h
/-- a new list: frozen at once, or one that may be written (m) -/
def newL (m : Bool) (l : List Z) (M : Mem) : Z × Mem := if m then (.ref M.length, M ++ [.lst l]) else (.lst l, M)
theorem newL_eq {m : Bool} {l : List Z} {M M' : Mem} {a : Z} (e : some (newL m l M) = some (a, M')) : a = (newL m l M).1 ∧ M' = (newL m l M).2 := by
  have q := Option.some.inj e
  rw [q]
  exact ⟨rfl, rfl⟩
theorem newL_ok (S : Sim K T g M H) {m : Bool} {l : List Z} {vs : List V} {Q : VK} {p : Addr} (r : RelZs K T g l vs) (f : Fin K T g Q (newL m l M).1 (newL m l M).2) (hp : H p = none) : Q (.ref p) (upd H p (.lst vs)) := by
  cases m with
  | true =>
    obtain ⟨S', e, q⟩ := S.newM (l := l) hp r
    exact f _ _ _ e S' ⟨p, rfl, q⟩
  | false =>
    have e := Le.frz (g := g) (o := .lst vs) (S.noF hp)
    exact f _ _ _ e (S.newF hp) ⟨p, vs, rfl, Gh.frz_at, r.mono e.toLeV⟩
theorem newT_ok (S : Sim K T g M H) {l : List Z} {vs : List V} {Q : VK} {p : Addr} (r : RelZs K T g l vs) (f : Fin K T g Q (.tup l) M) (hp : H p = none) : Q (.ref p) (upd H p (.tup vs)) := by
  have e := Le.frz (g := g) (o := .tup vs) (S.noF hp)
  exact f _ _ _ e (S.newF hp) ⟨p, vs, rfl, .inl Gh.frz_at, r.mono e.toLeV⟩
/-- an answer that makes nothing -/
theorem fin_at (S : Sim K T g M H) {Q : VK} {a : Z} {v : V} (f : Fin K T g Q a M) (r : RelZ K T g a v) : Q v H := f g H v (Le.refl g) S r
end

/-! ### arithmetic -/
def lim : Nat := 2 ^ 4000
def smal (i : Int) : Bool := decide (i.natAbs < lim)
def sAdd (m : Bool) : Z → Z → Mem → VO Z := fun x y M => match x, y with
  | .int i, .int j => some (.int (i + j), M)
  | .str a, .str b => if a.length + b.length ≤ sizeLine then some (.str (a ++ b), M) else none
  | x, y => match ownL M x, ownL M y with
    | some a, some b => if a.length + b.length ≤ sizeLine then some (newL m (a ++ b) M) else none
    | _, _ => none
def sSub : Z → Z → Mem → VO Z := fun x y M => match x, y with
  | .int i, .int j => some (.int (i - j), M)
  | _, _ => none
def sMul (m : Bool) : Z → Z → Mem → VO Z := fun x y M => match x, y with
  | .int i, .int j => if smal i && smal j then some (.int (i * j), M) else none
  | x, .int k => match ownL M x with
    | some a => if decide (-(2 ^ 63) ≤ k) && decide (k < 2 ^ 63) && decide (a.length * k.toNat ≤ sizeLine) then some (newL m (List.replicate k.toNat a).flatten M) else none
    | _ => none
  | _, _ => none
def sFdiv : Z → Z → Mem → VO Z := fun x y M => match x, y with
  | .int i, .int j => if decide (0 < j) && smal j then some (.int (i / j), M) else none
  | _, _ => none
def sMod : Z → Z → Mem → VO Z := fun x y M => match x, y with
  | .int i, .int j => if 0 < j then some (.int (i % j), M) else none
  | _, _ => none
def sPow : Z → Z → Mem → VO Z := fun x y M => match x, y with
  | .int i, .int j => if decide (0 ≤ j) && decide (j ≤ 4000) && smal i then some (.int (i ^ j.toNat), M) else none
  | _, _ => none
def sShl : Z → Z → Mem → VO Z := fun x y M => match x, y with
  | .int i, .int j => if decide (0 ≤ j) && decide (j ≤ 4000) && smal i then some (.int (i * 2 ^ j.toNat), M) else none
  | _, _ => none
def sShr : Z → Z → Mem → VO Z := fun x y M => match x, y with
  | .int i, .int j => if 0 ≤ j then some (.int (i / 2 ^ j.toNat), M) else none
  | _, _ => none
section
variable {K : PySem.W.Frag} {T : Tab} {X : Cx}
theorem smal_log {i : Int} (h : smal i = true) : i.natAbs.log2 < 4000 := PySem.Flt.log2_lt_of (by decide) (of_decide_eq_true h)
theorem smal_bits {i : Int} (h : smal i = true) : (Builtin.Int.intBits i : Int) ≤ 4000 := by
  have q := smal_log h
  unfold Builtin.Int.intBits
  split <;> omega
theorem op_powZ : OpR X (binaryOp .Pow) (rI (fun i j => 0 ≤ j ∧ j ≤ 4000 ∧ smal i = true) fun i j => .int (i ^ j.toNat)) := opI fun i j _ _ _ _ _ hc q => by
  obtain ⟨h1, h2, h3⟩ := hc
  refine pow_int h1 ?_ q
  have h4 := smal_bits h3
  have h5 : (Builtin.Int.intBits i : Int) * j ≤ 4000 * 4000 := Int.mul_le_mul h4 h2 h1 (by decide)
  have h6 : (4000 * 4000 : Int) ≤ 2 ^ 27 := by decide
  omega
theorem op_shlZ : OpR X (binaryOp .LShift) (rI (fun i j => 0 ≤ j ∧ j ≤ 4000 ∧ smal i = true) fun i j => .int (i * 2 ^ j.toNat)) := fun pins s σ H x y v u Q I rx ry ⟨i, j, e1, e2, ⟨h1, h2, h3⟩, q⟩ => by
  refine op_shlW pins s σ H x y v u Q I rx ry ⟨i, j, e1, e2, ?_, q⟩
  have h4 := smal_bits h3
  refine ⟨h1, ?_⟩
  omega
end
end ZM
end
section
/-! ZM, part D: that the operators by values are the machine's. -/
namespace ZM
open PySem L2 PyProof.Rows
section
variable {K : PySem.W.Frag} {T : Tab} {X : Cx}
theorem OpR.either {f : Value → Value → Sem Value} {r r' : R2} (h : OpR X f r) (h' : OpR X f r') : OpR X f (fun x y H Q => r x y H Q ∨ r' x y H Q) := fun pins s σ H x y v u Q I rx ry q =>
  q.elim (h pins s σ H x y v u Q I rx ry) (h' pins s σ H x y v u Q I rx ry)
/-- the two ints of a value pair -/
theorem relI {g : Gh} {i : Int} {v : V} (r : RelZ K T g (.int i) v) : v = .int i := r
def RAdd : R2 := fun x y H Q => (rI0 (fun i j => .int (i + j)) x y H Q ∨ (∃ i j, x = .str i ∧ y = .str j ∧ i.length + j.length ≤ sizeLine ∧ Q (.str (i ++ j)) H)) ∨ rCat x y H Q
theorem o_add (X : Cx) : OpR X (binaryOp .Add) RAdd := OpR.either (OpR.either op_add op_add_str) op_cat
theorem s_add (m : Bool) : Op2 K T RAdd (sAdd m) := by
  intro g M H x y u v a M' Q S rx ry e f
  unfold sAdd at e
  split at e
  · cases e
    exact .inl (.inl ⟨_, _, rx, ry, fin_at S f rfl⟩)
  · split at e
    · rename_i hl
      cases e
      exact .inl (.inr ⟨_, _, rx, ry, hl, fin_at S f rfl⟩)
    · cases e
  · split at e
    · rename_i la lb ea eb
      split at e
      · rename_i hl
        obtain ⟨rfl, rfl⟩ := newL_eq e
        obtain ⟨p, vs, rfl, hp, rs⟩ := ownL_ok S rx ea
        obtain ⟨q, ws, rfl, hq, ts⟩ := ownL_ok S ry eb
        refine .inr ⟨p, q, vs, ws, rfl, rfl, hp, hq, by rw [rs.length, ts.length]; exact hl, fun b hb => newL_ok S (rs.append ts) f hb⟩
      · cases e
    · cases e
theorem s_sub : Op2 K T (rI0 fun i j => .int (i - j)) sSub := by
  intro g M H x y u v a M' Q S rx ry e f
  unfold sSub at e
  split at e
  · cases e
    exact ⟨_, _, rx, ry, fin_at S f rfl⟩
  · cases e
theorem RelZs.flat {g : Gh} {l : List Z} {vs : List V} (r : RelZs K T g l vs) : ∀ k : Nat, RelZs K T g (List.replicate k l).flatten (List.replicate k vs).flatten
  | 0 => rfl
  | k + 1 => by
    rw [List.replicate_succ, List.flatten_cons, List.replicate_succ, List.flatten_cons]
    exact r.append (RelZs.flat r k)
def RMul : R2 := fun x y H Q => rI CMulW (fun i j => .int (i * j)) x y H Q ∨ rRep x y H Q
theorem o_mul (X : Cx) : OpR X (binaryOp .Mult) RMul := OpR.either op_mulW op_rep
theorem s_mul (m : Bool) : Op2 K T RMul (sMul m) := by
  intro g M H x y u v a M' Q S rx ry e f
  unfold sMul at e
  split at e
  · split at e
    · rename_i i j hs
      cases e
      obtain ⟨h1, h2⟩ := Bool.and_eq_true_iff.mp hs
      have l1 := smal_log h1
      have l2 := smal_log h2
      exact .inl ⟨_, _, rx, ry, by show _ < _; omega, fin_at S f rfl⟩
    · cases e
  · split at e
    · rename_i la ea
      split at e
      · rename_i hc
        obtain ⟨rfl, rfl⟩ := newL_eq e
        simp only [Bool.and_eq_true, decide_eq_true_eq] at hc
        obtain ⟨⟨h1, h2⟩, h3⟩ := hc
        obtain ⟨p, vs, rfl, hp, rs⟩ := ownL_ok S rx ea
        refine .inr ⟨p, _, vs, rfl, ry, hp, h1, h2, by rw [rs.length]; exact h3, fun b hb => newL_ok S (rs.flat _) f hb⟩
      · cases e
    · cases e
  · cases e
theorem s_fdiv : Op2 K T (rI CDivW fun i j => .int (i / j)) sFdiv := by
  intro g M H x y u v a M' Q S rx ry e f
  unfold sFdiv at e
  split at e
  · split at e
    · rename_i i j hs
      cases e
      simp only [Bool.and_eq_true, decide_eq_true_eq] at hs
      exact ⟨_, _, rx, ry, ⟨hs.1, Nat.lt_of_lt_of_le (smal_log hs.2) (by decide)⟩, fin_at S f rfl⟩
    · cases e
  · cases e
theorem s_mod : Op2 K T (rI (fun _ j => 0 < j) fun i j => .int (i % j)) sMod := by
  intro g M H x y u v a M' Q S rx ry e f
  unfold sMod at e
  split at e
  · split at e
    · cases e
      exact ⟨_, _, rx, ry, by assumption, fin_at S f rfl⟩
    · cases e
  · cases e
theorem s_pow : Op2 K T (rI (fun i j => 0 ≤ j ∧ j ≤ 4000 ∧ smal i = true) fun i j => .int (i ^ j.toNat)) sPow := by
  intro g M H x y u v a M' Q S rx ry e f
  unfold sPow at e
  split at e
  · split at e
    · rename_i hs
      cases e
      simp only [Bool.and_eq_true, decide_eq_true_eq] at hs
      exact ⟨_, _, rx, ry, ⟨hs.1.1, hs.1.2, hs.2⟩, fin_at S f rfl⟩
    · cases e
  · cases e
theorem s_shl : Op2 K T (rI (fun i j => 0 ≤ j ∧ j ≤ 4000 ∧ smal i = true) fun i j => .int (i * 2 ^ j.toNat)) sShl := by
  intro g M H x y u v a M' Q S rx ry e f
  unfold sShl at e
  split at e
  · split at e
    · rename_i hs
      cases e
      simp only [Bool.and_eq_true, decide_eq_true_eq] at hs
      exact ⟨_, _, rx, ry, ⟨hs.1.1, hs.1.2, hs.2⟩, fin_at S f rfl⟩
    · cases e
  · cases e
theorem s_shr : Op2 K T (rI (fun _ j => 0 ≤ j) fun i j => .int (i / 2 ^ j.toNat)) sShr := by
  intro g M H x y u v a M' Q S rx ry e f
  unfold sShr at e
  split at e
  · split at e
    · cases e
      exact ⟨_, _, rx, ry, by assumption, fin_at S f rfl⟩
    · cases e
  · cases e
end

/-! ### comparisons -/
def sEq (neg : Bool) : Z → Z → Mem → VO Z := fun x y M => match x, y with
  | .int i, .int j => some (.bl (xor neg (decide (i = j))), M)
  | x, y => match datM 32 M x, datM 32 M y with
    | some p, some q => if SeqAt.shaped p && SeqAt.shaped q then some (.bl (xor neg (PyData.eqv p q)), M) else none
    | _, _ => none
def sOrd (p : Int → Int → Bool) : Z → Z → Mem → VO Z := fun x y M => match x, y with
  | .int i, .int j => some (.bl (p i j), M)
  | _, _ => none
def isNonZ : Z → Bool
  | .non => true
  | _ => false
/-- is: of None, of bools -/
def sIs (neg : Bool) : Z → Z → Mem → VO Z := fun x y M => match x, y with
  | .bl a, .bl b => some (.bl (xor neg (decide (a = b))), M)
  | x, .non => some (.bl (xor neg (isNonZ x)), M)
  | _, _ => none
def flatZ : Z → Bool
  | .non => true
  | .bl _ => true
  | .int _ => true
  | .str _ => true
  | .rep _ => true
  | _ => false
def vOf : Z → V
  | .non => .non
  | .bl b => .bl b
  | .int i => .int i
  | .str s => .str s
  | .rep d => .str d.shown
  | _ => .non
/-- in: data in a list, flat things in a tuple -/
def sIn (neg : Bool) : Z → Z → Mem → VO Z := fun x y M => match y with
  | .tup l => if flatZ x && l.all flatZ then some (.bl (xor neg (inV (vOf x) (l.map vOf))), M) else none
  | y => match datM 32 M x, datM 32 M y with
    | some p, some (.list ds) => if SeqAt.shaped p && SeqAt.shaped (.list ds) then some (.bl (xor neg (ds.any fun z => PyData.eqv z p)), M) else none
    | _, _ => none
section
variable {K : PySem.W.Frag} {T : Tab} {X : Cx}
theorem xor_f (b : Bool) : xor false b = b := by cases b <;> rfl
theorem xor_t (b : Bool) : xor true b = !b := by cases b <;> rfl
def REq (K : PySem.W.Frag) : R2 := fun x y H Q => rEq x y H Q ∨ rEqD K x y H Q
def RNe (K : PySem.W.Frag) : R2 := fun x y H Q => rNe x y H Q ∨ rNeD K x y H Q
theorem o_eq (hu : X.A.units + 64 < cLine) : OpR X (compareOp .Eq) (REq X.K) := OpR.either op_eq (op_eqD hu)
theorem o_ne (hu : X.A.units + 64 < cLine) : OpR X (compareOp .NotEq) (RNe X.K) := OpR.either op_ne (op_neD hu)
theorem scal_int (i j : Int) : scal (.int i) (.int j) = true := rfl
theorem dec_vint {i j : Int} : decide (V.int i = V.int j) = decide (i = j) := by
  by_cases h : i = j
  · subst h; simp
  · rw [decide_eq_false h, decide_eq_false fun z => h (V.int.inj z)]
theorem s_eq : Op2 K T (REq K) (sEq false) := by
  intro g M H x y u v a M' Q S rx ry e f
  unfold sEq at e
  split at e
  · cases e
    rw [xor_f] at f
    have q := fin_at S f (v := .bl _) rfl
    cases (show u = .int _ from rx)
    cases (show v = .int _ from ry)
    exact .inl ⟨rfl, by rw [dec_vint]; exact q⟩
  · split at e
    · rename_i p q e1 e2
      split at e
      · rename_i hs
        cases e
        rw [xor_f] at f
        obtain ⟨h1, h2⟩ := Bool.and_eq_true_iff.mp hs
        exact .inr ⟨p, q, dp_of S 32 _ _ _ rx e1, dp_of S 32 _ _ _ ry e2, h1, h2, fin_at S f rfl⟩
      · cases e
    · cases e
theorem s_ne : Op2 K T (RNe K) (sEq true) := by
  intro g M H x y u v a M' Q S rx ry e f
  unfold sEq at e
  split at e
  · cases e
    rw [xor_t] at f
    have q := fin_at S f (v := .bl _) rfl
    cases (show u = .int _ from rx)
    cases (show v = .int _ from ry)
    exact .inl ⟨rfl, by rw [dec_vint]; exact q⟩
  · split at e
    · rename_i p q e1 e2
      split at e
      · rename_i hs
        cases e
        rw [xor_t] at f
        obtain ⟨h1, h2⟩ := Bool.and_eq_true_iff.mp hs
        exact .inr ⟨p, q, dp_of S 32 _ _ _ rx e1, dp_of S 32 _ _ _ ry e2, h1, h2, fin_at S f rfl⟩
      · cases e
    · cases e
theorem s_ord (p : Int → Int → Bool) : Op2 K T (rI0 fun i j => .bl (p i j)) (sOrd p) := by
  intro g M H x y u v a M' Q S rx ry e f
  unfold sOrd at e
  split at e
  · cases e
    exact ⟨_, _, rx, ry, fin_at S f rfl⟩
  · cases e
theorem isNon_rel {g : Gh} {z : Z} {v : V} (r : RelZ K T g z v) : decide (v = .non) = isNonZ z := by
  cases z with
  | non => cases r; rfl
  | tup _ => obtain ⟨a, vs, rfl, _⟩ := r; rfl
  | lst _ => obtain ⟨a, vs, rfl, _⟩ := r; rfl
  | scr _ => obtain ⟨a, rfl, _⟩ := r; rfl
  | dic0 => obtain ⟨a, rfl, _⟩ := r; rfl
  | ref _ => obtain ⟨a, rfl, _⟩ := r; rfl
  | _ => cases r; rfl
def RIs : R2 := fun x y H Q => rIsB x y H Q ∨ (y = .non ∧ Q (.bl (decide (x = .non))) H)
def RIsN : R2 := fun x y H Q => rNotB x y H Q ∨ (y = .non ∧ Q (.bl (!decide (x = .non))) H)
theorem o_is (X : Cx) : OpR X (compareOp .Is) RIs := OpR.either op_isBl op_isN
theorem o_isN (X : Cx) : OpR X (compareOp .IsNot) RIsN := OpR.either op_notBl op_notN
theorem s_is : Op2 K T RIs (sIs false) := by
  intro g M H x y u v a M' Q S rx ry e f
  unfold sIs at e
  split at e
  · cases e
    rw [xor_f] at f
    exact .inl ⟨_, _, rx, ry, fin_at S f rfl⟩
  · cases e
    rw [xor_f] at f
    exact .inr ⟨ry, by rw [isNon_rel rx]; exact fin_at S f rfl⟩
  · cases e
theorem s_isN : Op2 K T RIsN (sIs true) := by
  intro g M H x y u v a M' Q S rx ry e f
  unfold sIs at e
  split at e
  · cases e
    rw [xor_t] at f
    exact .inl ⟨_, _, rx, ry, fin_at S f rfl⟩
  · cases e
    rw [xor_t] at f
    exact .inr ⟨ry, by rw [isNon_rel rx]; exact fin_at S f rfl⟩
  · cases e
theorem flat_rel {g : Gh} {z : Z} {v : V} (r : RelZ K T g z v) (h : flatZ z = true) : v = vOf z ∧ flatV v = true := by
  cases z <;> first | (cases h; done) | (cases r; exact ⟨rfl, rfl⟩)
theorem flat_rels {g : Gh} : ∀ {l : List Z} {vs : List V}, RelZs K T g l vs → l.all flatZ = true → vs = l.map vOf ∧ vs.all flatV = true
  | [], _, r, _ => by cases r; exact ⟨rfl, rfl⟩
  | z :: l, _, ⟨v, ws, e, r1, r2⟩, h => by
    subst e
    rw [List.all_cons] at h
    obtain ⟨h1, h2⟩ := Bool.and_eq_true_iff.mp h
    obtain ⟨q1, q2⟩ := flat_rel r1 h1
    obtain ⟨q3, q4⟩ := flat_rels r2 h2
    refine ⟨by rw [List.map_cons, ← q1, ← q3], ?_⟩
    rw [List.all_cons, q2, q4]
    rfl
def RIn (K : PySem.W.Frag) : R2 := fun x y H Q => rIn K false x y H Q ∨ rInD K x y H Q
def RNotIn (K : PySem.W.Frag) : R2 := fun x y H Q => rIn K true x y H Q ∨ rNotInD K x y H Q
theorem o_in (hu : X.A.units + 65 < cLine) : OpR X (compareOp .In) (RIn X.K) := OpR.either op_in_seq (op_inD hu)
theorem o_notIn (hu : X.A.units + 65 < cLine) : OpR X (compareOp .NotIn) (RNotIn X.K) := OpR.either op_notIn_seq (op_notInD hu)
theorem s_in : Op2 K T (RIn K) (sIn false) := by
  intro g M H x y u v a M' Q S rx ry e f
  unfold sIn at e
  split at e
  · split at e
    · rename_i l hs
      cases e
      rw [xor_f] at f
      obtain ⟨h1, h2⟩ := Bool.and_eq_true_iff.mp hs
      obtain ⟨p, vs, rfl, hp, rs⟩ := ry
      obtain ⟨q1, q2⟩ := flat_rel rx h1
      obtain ⟨q3, q4⟩ := flat_rels rs h2
      refine .inl ⟨p, vs, rfl, .inr (sqT_of S hp), q2, q4, ?_⟩
      rw [if_neg Bool.false_ne_true, q1, q3]
      exact fin_at S f rfl
    · cases e
  · split at e
    · rename_i p ds e1 e2
      split at e
      · rename_i hs
        cases e
        rw [xor_f] at f
        obtain ⟨h1, h2⟩ := Bool.and_eq_true_iff.mp hs
        exact .inr ⟨p, ds, dp_of S 32 _ _ _ rx e1, dp_of S 32 _ _ _ ry e2, h1, h2, fin_at S f rfl⟩
      · cases e
    · cases e
theorem s_notIn : Op2 K T (RNotIn K) (sIn true) := by
  intro g M H x y u v a M' Q S rx ry e f
  unfold sIn at e
  split at e
  · split at e
    · rename_i l hs
      cases e
      rw [xor_t] at f
      obtain ⟨h1, h2⟩ := Bool.and_eq_true_iff.mp hs
      obtain ⟨p, vs, rfl, hp, rs⟩ := ry
      obtain ⟨q1, q2⟩ := flat_rel rx h1
      obtain ⟨q3, q4⟩ := flat_rels rs h2
      refine .inl ⟨p, vs, rfl, .inr (sqT_of S hp), q2, q4, ?_⟩
      rw [if_pos rfl, q1, q3]
      exact fin_at S f rfl
    · cases e
  · split at e
    · rename_i p ds e1 e2
      split at e
      · rename_i hs
        cases e
        rw [xor_t] at f
        obtain ⟨h1, h2⟩ := Bool.and_eq_true_iff.mp hs
        exact .inr ⟨p, ds, dp_of S 32 _ _ _ rx e1, dp_of S 32 _ _ _ ry e2, h1, h2, fin_at S f rfl⟩
      · cases e
    · cases e
end

/-! ### one place, items, slices -/
def sNeg : Z → Mem → VO Z := fun x M => match x with
  | .int i => some (.int (-i), M)
  | _ => none
/-- a value's truth -/
def truZ (M : Mem) : Z → Option Bool
  | .non => some false
  | .bl b => some b
  | .int i => some (i != 0)
  | .tup l => some (!l.isEmpty)
  | z => (itsL M z).map fun l => !l.isEmpty
def sIx : Z → Z → Mem → VO Z := fun x y M => match x, y with
  | .tup l, .int i => (atI l i).map fun z => (z, M)
  | .str s, .int i => if s.length ≤ sizeLine then (atI s.cps.toList i).map fun c => (.str ⟨#[c]⟩, M) else none
  | x, .int i => match itsL M x with
    | some l => (atI l i).map fun z => (z, M)
    | none => none
  | _, _ => none
def cutZ (xs : List Z) (lo hi : Option Int) : List Z := (xs.drop (HT.sIx xs.length 0 lo)).take (HT.sIx xs.length xs.length hi - HT.sIx xs.length 0 lo)
def sSl (m : Bool) : Z → Option Int → Option Int → Mem → VO Z := fun x lo hi M => match itsL M x with
  | some l => some (newL m (cutZ l lo hi) M)
  | none => none
section
variable {K : PySem.W.Frag} {T : Tab} {X : Cx}
theorem s_neg : Op1 K T (rU fun i => .int (-i)) sNeg := by
  intro g M H x u a M' Q S rx e f
  unfold sNeg at e
  split at e
  · cases e
    exact ⟨_, rx, fin_at S f rfl⟩
  · cases e
theorem tru_ok {g : Gh} {M : Mem} {H : Hp} {z : Z} {v : V} {b : Bool} (S : Sim K T g M H) (r : RelZ K T g z v) (h : truZ M z = some b) : TruV K v H b := by
  cases z with
  | non => cases h; cases r; rfl
  | bl b => cases h; cases r; rfl
  | int i => cases h; cases r; rfl
  | tup l =>
    cases h
    obtain ⟨a, vs, rfl, ha, rs⟩ := r
    refine .inr (.inl ⟨vs, sqT_of S ha, ?_⟩)
    have e := rs.length
    cases l <;> cases vs <;> simp at e ⊢
  | _ =>
    simp only [truZ] at h
    obtain ⟨l, e, rfl⟩ := Option.map_eq_some_iff.mp h
    obtain ⟨a, vs, rfl, ha, rs⟩ := itsL_ok S r e
    refine .inl ⟨vs, ha, ?_⟩
    have e := rs.length
    cases l <;> cases vs <;> simp at e ⊢
theorem atI_rel {g : Gh} {l : List Z} {vs : List V} {i : Int} {z : Z} (rs : RelZs K T g l vs) (h : atI l i = some z) : ∃ v, atI vs i = some v ∧ RelZ K T g z v := by
  unfold atI at h ⊢
  rw [rs.length]
  cases e : ixN l.length i with
  | none => rw [e] at h; cases h
  | some j =>
    rw [e] at h
    exact rs.get h
theorem s_ix : Op2 K T (rIx K) sIx := by
  intro g M H x y u v a M' Q S rx ry e f
  unfold sIx at e
  split at e
  · obtain ⟨z, e1, e2⟩ := Option.map_eq_some_iff.mp e
    cases e2
    obtain ⟨p, vs, rfl, hp, rs⟩ := rx
    obtain ⟨w, q1, q2⟩ := atI_rel rs e1
    exact .inr (.inl ⟨p, vs, _, w, rfl, ry, sqT_of S hp, q1, fin_at S f q2⟩)
  · split at e
    · obtain ⟨c, e1, e2⟩ := Option.map_eq_some_iff.mp e
      cases e2
      exact .inr (.inr ⟨_, _, c, rx, ry, by assumption, e1, fin_at S f rfl⟩)
    · cases e
  · split at e
    · rename_i l el
      obtain ⟨z, e1, e2⟩ := Option.map_eq_some_iff.mp e
      cases e2
      obtain ⟨p, vs, rfl, hp, rs⟩ := itsL_ok S rx el
      obtain ⟨w, q1, q2⟩ := atI_rel rs e1
      exact .inl ⟨p, vs, _, w, rfl, ry, hp, q1, fin_at S f q2⟩
    · cases e
  · cases e
theorem cut_rel {g : Gh} {l : List Z} {vs : List V} (rs : RelZs K T g l vs) (lo hi : Option Int) : RelZs K T g (cutZ l lo hi) (cutV vs lo hi) := by
  unfold cutZ cutV
  rw [rs.length]
  exact (rs.drop _).take _
end
end ZM
end
section
/-! ZM, part E: repr, isinstance and other calls by values. -/
namespace ZM
open PySem L2 PyProof.Rows

/-! ### the length of a shown datum -/
mutual
/-- a bound of the shown text's length -/
def szD : PyData → Nat
  | .none => 4
  | .bool _ => 5
  | .int i => i.natAbs.log2 + 2
  | .str x => 10 * x.length + 2
  | .list xs => szDs xs + 4
  | .tuple xs => szDs xs + 5
  | .dict _ => 4
def szDs : List PyData → Nat
  | [] => 0
  | x :: r => szD x + 2 + szDs r
end
mutual
/-- what may be shown, with strings of real signs -/
def shwD : PyData → Bool
  | .none => true
  | .bool _ => true
  | .int i => decide (i.natAbs.log2 < 1920)
  | .str x => PyData.strOk x
  | .list xs => shwDs xs
  | .tuple xs => shwDs xs
  | .dict kvs => kvs.isEmpty
def shwDs : List PyData → Bool
  | [] => true
  | x :: r => shwD x && shwDs r
end
theorem join_le (sep : Str) : ∀ (ts : List Str) (n : Nat), sep.length = 2 → (∀ t ∈ ts, True) → (Str.join sep ts).length ≤ (ts.map fun t => t.length + 2).sum
  | [], _, _, _ => Nat.le_refl _
  | [x], _, _, _ => by show x.length ≤ _; simp
  | x :: y :: r, n, h, _ => by
    have ih := join_le sep (y :: r) n h fun _ _ => trivial
    have e : (Str.join sep (x :: y :: r)) = x ++ sep ++ Str.join sep (y :: r) := rfl
    rw [e, strLen_append, strLen_append, h]
    simp only [List.map_cons, List.sum_cons] at ih ⊢
    omega
theorem shownLs (f : PyData → Nat) : ∀ ds : List PyData, (∀ d ∈ ds, d.shown.length ≤ szD d) → ((PyData.shownAll ds).map fun t => t.length + 2).sum ≤ szDs ds
  | [], _ => by simp [PyData.shownAll, szDs]
  | d :: r, h => by
    have ih := shownLs f r fun x hx => h x (List.mem_cons_of_mem _ hx)
    have h1 := h d List.mem_cons_self
    simp only [PyData.shownAll, List.map_cons, List.sum_cons, szDs]
    omega
theorem list_le (ts : List Str) : (listText ts).length ≤ (ts.map fun t => t.length + 2).sum + 4 := by
  rw [listText_eq_join, strLen_append, strLen_append]
  have h := join_le ", " ts 0 rfl fun _ _ => trivial
  have e1 : (("[" : String) : Str).length = 1 := rfl
  have e2 : (("]" : String) : Str).length = 1 := rfl
  omega
theorem tuple_le (ts : List Str) : (tupleText ts).length ≤ (ts.map fun t => t.length + 2).sum + 5 := by
  unfold tupleText
  rw [strLen_append, strLen_append]
  have h := join_le ", " ts 0 rfl fun _ _ => trivial
  have e1 : (("(" : String) : Str).length = 1 := rfl
  have e2 : ((if ts.length == 1 then ",)" else ")" : String) : Str).length ≤ 2 := by
    split <;> decide
  omega
mutual
theorem shown_le : ∀ d : PyData, shwD d = true → d.shown.length ≤ szD d
  | .none, _ => Nat.le_refl _
  | .bool b, _ => by cases b <;> decide
  | .int i, _ => by
    simp only [PyData.shown, szD]
    have h := int_text_length_le (a := i) (k := i.natAbs.log2 + 1) (Nat.succ_pos _) (Nat.lt_succ_self _)
    rw [PySem.ofString_length]
    exact h
  | .str x, h => by
    simp only [PyData.shown, szD]
    refine PySem.StrLaws.reprText_len x fun c hc => ?_
    have q : x.cps.all (· < 0x110000) = true := h
    rw [← Array.all_toList, List.all_eq_true] at q
    have z := of_decide_eq_true (q c hc)
    have z2 : (0x110000 : Nat) ≤ 16 ^ 8 := by decide
    omega
  | .list xs, h => by
    simp only [PyData.shown, szD]
    have q := shownLs (fun _ => 0) xs (shownAll_le xs (by simpa only [shwD] using h))
    have z := list_le (PyData.shownAll xs)
    omega
  | .tuple xs, h => by
    simp only [PyData.shown, szD]
    have q := shownLs (fun _ => 0) xs (shownAll_le xs (by simpa only [shwD] using h))
    have z := tuple_le (PyData.shownAll xs)
    omega
  | .dict kvs, h => by
    have e : kvs = [] := by cases kvs with
      | nil => rfl
      | cons _ _ => simp [shwD] at h
    subst e
    decide
theorem shownAll_le : ∀ ds : List PyData, shwDs ds = true → ∀ d ∈ ds, d.shown.length ≤ szD d
  | [], _, _, h => nomatch h
  | x :: r, h, d, hd => by
    rw [shwDs, Bool.and_eq_true] at h
    rcases List.mem_cons.mp hd with e | e
    · rw [e]
      exact shown_le x h.1
    · exact shownAll_le r h.2 d e
end
mutual
theorem shw_showable : ∀ d : PyData, shwD d = true → d.showable = true
  | .none, _ => rfl
  | .bool _, _ => rfl
  | .int i, h => h
  | .str _, _ => rfl
  | .list xs, h => by simp only [PyData.showable]; exact shw_showableAll xs (by simpa only [shwD] using h)
  | .tuple xs, h => by simp only [PyData.showable]; exact shw_showableAll xs (by simpa only [shwD] using h)
  | .dict kvs, h => by
    cases kvs with
    | nil => rfl
    | cons _ _ => simp [shwD] at h
theorem shw_showableAll : ∀ ds : List PyData, shwDs ds = true → PyData.showableAll ds = true
  | [], _ => rfl
  | x :: r, h => by
    rw [shwDs, Bool.and_eq_true] at h
    simp only [PyData.showableAll, shw_showable x h.1, shw_showableAll r h.2, Bool.and_self]
end
def shwOk (d : PyData) : Bool := shwD d && decide (szD d ≤ sizeLine) && decide (d.depth ≤ 64)

mutual
theorem dp_noDict {K : PySem.W.Frag} {H : Hp} : ∀ (d : PyData) (x : V), Dp K H x d → d.hasDict = false
  | .none, _, _ => rfl
  | .bool _, _, _ => rfl
  | .int _, _, _ => rfl
  | .str _, _, _ => rfl
  | .list ds, _, h => by
    cases h with
    | lst _ ha => simp only [PyData.hasDict]; exact dp_noDicts ds _ ha
  | .tuple ds, _, h => by
    cases h with
    | tup _ ha => simp only [PyData.hasDict]; exact dp_noDicts ds _ ha
  | .dict _, _, h => by cases h
theorem dp_noDicts {K : PySem.W.Frag} {H : Hp} : ∀ (ds : List PyData) (xs : List V), DpAll K H xs ds → PyData.hasDictAll ds = false
  | [], _, _ => rfl
  | d :: ds, _, h => by
    cases h with
    | cons h1 h2 => simp only [PyData.hasDictAll, dp_noDict d _ h1, dp_noDicts ds _ h2, Bool.or_self]
end
section
variable {X : Cx}
/-- an empty dict is read -/
theorem reads_dic0 {pins : List (Addr × Obj)} {σ : St} {H : Hp} {s : Shared} {a : Addr} (I : Inv X pins σ H s) (h : H a = some (.dK [])) : ∃ as, Reads s.heap (.ref a) (.dict []) as ∧ sysModules ∉ as := by
  obtain ⟨_, hsys, vs, kv, o, es, ep, ho, hex, hd, hk, hp, _⟩ := I.hok a _ h
  cases kv
  have e : es.toList = [] := by
    cases q : es.toList with
    | nil => rfl
    | cons x r => rw [q] at hp; cases hp
  refine ⟨[a], Reads.dict (as := []) (bs := []) ho hex.1 hd ?_ ?_, ?_⟩
  · rw [e]; exact .nil
  · rw [e]; exact .nil
  · intro z
    rw [List.mem_singleton] at z
    rw [← z] at hsys
    simp at hsys
/-- repr(x) of data -/
def RRepr (K : PySem.W.Frag) : List V → Hp → VK → Prop := fun xs H Q => ∃ x d, xs = [x] ∧ (Dp K H x d ∨ ∃ a, x = .ref a ∧ H a = some (.dK []) ∧ d = .dict []) ∧ shwOk d = true ∧ Q (.str d.shown) H
theorem o_repr (hg : X.A.guards = some []) (hu : X.A.units + 66 < cLine) : CallR X (.builtin "repr") (RRepr X.K) := by
  intro pins s σ H xs us Q I r h
  obtain ⟨x, d, rfl, hd, hs, q⟩ := h
  obtain ⟨u, rfl, rx⟩ := vals1 r
  unfold shwOk at hs
  simp only [Bool.and_eq_true, decide_eq_true_eq] at hs
  obtain ⟨⟨h1, h2⟩, h3⟩ := hs
  have hz : d.shown.length ≤ sizeLine := Nat.le_trans (shown_le d h1) h2
  have fin : ∀ (h' : Heap) (u : Tok) (tk : Nat), (∀ b o, s.heap.get? b = some o → h'.get? b = some o) → EP X pins σ Q (.str d.shown u) { s with heap := h', toks := tk } := fun h' u tk hk => ⟨.str d.shown, H, I.kept hk, ⟨_, rfl⟩, q⟩
  have viaRef : ∀ (a : Addr) (as : List Addr), u = .ref a → Reads s.heap (.ref a) d as → (d.hasDict = true → sysModules ∉ as) → wpAny (model X.prog X.w) X.A (call (.builtin "repr") [u]) (EP X pins σ Q) X.xe s := fun a as e rd hsm => by
    subst e
    exact repr_of_reads' rd (shw_showable d h1) hsm hg (by omega) (fun _ _ e => e) fin hz
  rcases hd with hd | ⟨a, rfl, ha, rfl⟩
  · obtain ⟨as, rd⟩ := Dp.reads I d x u hd rx
    have hnd : d.hasDict = true → sysModules ∉ as := by
      have nd : d.hasDict = false := by
        clear fin viaRef q hz h1 h2 h3 rd rx r
        exact (dp_noDict d x hd)
      rw [nd]
      intro z
      cases z
    cases hd with
    | non => cases rx; exact PySem.P.repr_of_none (fin s.heap _ _ fun _ _ e => e)
    | bl b => cases rx; exact PySem.P.repr_of_bool (fin s.heap _ _ fun _ _ e => e)
    | int i =>
      obtain ⟨t, rfl⟩ := rx
      exact PySem.P.repr_of_int (by simpa [shwD] using h1) (fin s.heap _ _ fun _ _ e => e)
    | str y =>
      obtain ⟨t, rfl⟩ := rx
      exact PySem.P.repr_of_str (fin s.heap _ _ fun _ _ e => e) (by simpa only [PyData.shown] using hz)
    | lst hs ha => cases rx; exact viaRef _ as rfl rd hnd
    | tup hs ha => cases rx; exact viaRef _ as rfl rd hnd
  · cases rx
    obtain ⟨as, rd, hn⟩ := reads_dic0 I ha
    exact viaRef a as rfl rd fun _ => hn
end
end ZM
end
section
/-! ZM, part F: built-in functions by values. -/
namespace ZM
open PySem L2 PyProof.Rows

def tyZ : Z → Option Ty
  | .non => some .non
  | .bl _ => some .bool
  | .int _ => some .int
  | .str _ => some .str
  | .rep _ => some .str
  | .tup _ => some .tup
  | .lst _ => some .lst
  | .scr _ => some .lst
  | .dic0 => some .dic
  | _ => none
def tyM (M : Mem) : Z → Option Ty
  | .ref n => match M[n]? with
    | some (.lst _) => some .lst
    | _ => none
  | z => tyZ z
/-- is the one type the other, or below it -/
def subTy : Ty → Ty → Bool
  | .non, .non => true
  | .bool, .bool => true
  | .bool, .int => true
  | .int, .int => true
  | .str, .str => true
  | .tup, .tup => true
  | .lst, .lst => true
  | .dic, .dic => true
  | _, _ => false
theorem kitB_sub : ∀ a b : Ty, b ≠ .non → kitB a.name b.name = some (subTy a b) := by
  intro a b h
  cases a <;> cases b <;> first | exact absurd rfl h | decide +kernel
def intsL : List Z → Option (List Int)
  | [] => some []
  | .int i :: r => match intsL r with
    | some is => some (i :: is)
    | none => none
  | _ :: _ => none
def maxI : Int → List Int → Int
  | m, [] => m
  | m, i :: r => maxI (if m < i then i else m) r
def minI : Int → List Int → Int
  | m, [] => m
  | m, i :: r => minI (if i < m then i else m) r
inductive Bi where
  | len | isi | int | max | min | sum | repr | list (m : Bool)
def Bi.name : Bi → Str
  | .len => "len"
  | .isi => "isinstance"
  | .int => "int"
  | .max => "max"
  | .min => "min"
  | .sum => "sum"
  | .repr => "repr"
  | .list _ => "list"
def Bi.val : Bi → Value
  | .len => .builtin "len"
  | .isi => .builtin "isinstance"
  | .int => .type "int"
  | .max => .builtin "max"
  | .min => .builtin "min"
  | .sum => .builtin "sum"
  | .repr => .builtin "repr"
  | .list _ => .type "list"
def biSem : Bi → List Z → Mem → VO Z
  | .len, [x], M => match x with
    | .str s => if s.length ≤ sizeLine then some (.int s.length, M) else none
    | .tup l => some (.int l.length, M)
    | x => (itsL M x).map fun l => (.int l.length, M)
  | .isi, [x, .ty t], M => match tyM M x with
    | some a => if t = .non then none else some (.bl (subTy a t), M)
    | none => none
  | .int, [x], M => match x with
    | .int i => some (.int i, M)
    | .bl b => some (.int (if b then 1 else 0), M)
    | _ => none
  | .max, [.int i, .int j], M => some (.int (if j > i then j else i), M)
  | .max, [x], M => match (itsL M x).bind intsL with
    | some (i :: r) => some (.int (maxI i r), M)
    | _ => none
  | .min, [.int i, .int j], M => some (.int (if j < i then j else i), M)
  | .min, [x], M => match (itsL M x).bind intsL with
    | some (i :: r) => some (.int (minI i r), M)
    | _ => none
  | .sum, [x], M => match (itsL M x).bind intsL with
    | some l => some (.int l.sum, M)
    | none => none
  | .repr, [x], M => match x with
    | .dic0 => some (.rep (.dict []), M)
    | x => match datM 32 M x with
      | some d => if shwOk d then some (.rep d, M) else none
      | none => none
  | .list m, [x], M => match x with
    | .tup l => some (newL m l M)
    | x => match itsL M x with
      | some l => some (newL m l M)
      | none => none
  | _, _, _ => none

section
variable {K : PySem.W.Frag} {T : Tab} {X : Cx}
theorem intsL_rel {g : Gh} : ∀ {l : List Z} {vs : List V} {is : List Int}, RelZs K T g l vs → intsL l = some is → vs = is.map V.int
  | [], _, _, r, h => by cases r; cases h; rfl
  | z :: l, _, _, ⟨v, ws, e, r1, r2⟩, h => by
    subst e
    cases z <;> simp only [intsL] at h <;> try cases h
    rename_i i
    split at h
    · rename_i js e
      cases h
      rw [intsL_rel r2 e, (show v = V.int i from r1)]
      rfl
    · cases h
theorem maxI_ok : ∀ (r : List Int) (m : Int), (maxI m r ∈ m :: r) ∧ ∀ y ∈ m :: r, y ≤ maxI m r
  | [], m => ⟨by simp [maxI], by simp [maxI]⟩
  | i :: r, m => by
    obtain ⟨h1, h2⟩ := maxI_ok r (if m < i then i else m)
    unfold maxI
    refine ⟨?_, fun y hy => ?_⟩
    · rcases List.mem_cons.mp h1 with e | e
      · rw [e]
        split <;> simp
      · exact List.mem_cons_of_mem _ (List.mem_cons_of_mem _ e)
    · have h3 := h2 _ List.mem_cons_self
      rcases List.mem_cons.mp hy with e | e
      · rw [e]
        split at h3 <;> split <;> omega
      · rcases List.mem_cons.mp e with e | e
        · rw [e]
          split at h3 <;> split <;> omega
        · exact h2 y (List.mem_cons_of_mem _ e)
theorem minI_ok : ∀ (r : List Int) (m : Int), (minI m r ∈ m :: r) ∧ ∀ y ∈ m :: r, minI m r ≤ y
  | [], m => ⟨by simp [minI], by simp [minI]⟩
  | i :: r, m => by
    obtain ⟨h1, h2⟩ := minI_ok r (if i < m then i else m)
    unfold minI
    refine ⟨?_, fun y hy => ?_⟩
    · rcases List.mem_cons.mp h1 with e | e
      · rw [e]
        split <;> simp
      · exact List.mem_cons_of_mem _ (List.mem_cons_of_mem _ e)
    · have h3 := h2 _ List.mem_cons_self
      rcases List.mem_cons.mp hy with e | e
      · rw [e]
        split at h3 <;> split <;> omega
      · rcases List.mem_cons.mp e with e | e
        · rw [e]
          split at h3 <;> split <;> omega
        · exact h2 y (List.mem_cons_of_mem _ e)
theorem tyM_ok {g : Gh} {M : Mem} {H : Hp} {z : Z} {v : V} {t : Ty} (S : Sim K T g M H) (r : RelZ K T g z v) (h : tyM M z = some t) : TyX K H v (.type t.name) := by
  cases z <;> simp only [tyM, tyZ] at h <;> try cases h
  · cases r; exact .base .non
  · cases r; exact .base (.bl _)
  · cases r; exact .base (.int _)
  · cases r; exact .base (.str _)
  · cases r; exact .base (.str _)
  · obtain ⟨a, vs, rfl, ha, _⟩ := r
    rcases ha with ha | ⟨o, its, n, hk, hc, _⟩
    · exact .base (.tup (S.fr _ _ ha))
    · exact .kTuple hk hc
  · obtain ⟨a, vs, rfl, ha, _⟩ := r
    exact .base (.lst (S.fr _ _ ha))
  · obtain ⟨a, rfl, ha | ⟨o, ha⟩ | ⟨o, its, n, hk, hc, _⟩⟩ := r
    · exact .base (.lst (S.fr _ _ ha))
    · exact .base (.frz (S.fr _ _ ha))
    · exact .kList hk hc
  · obtain ⟨a, rfl, ha⟩ := r
    exact .base (.dK (S.fr _ _ ha))
  · obtain ⟨a, rfl, ha⟩ := r
    split at h
    · rename_i l e
      cases h
      obtain ⟨b, vs, q1, _, q3, _⟩ := S.get e
      rw [ha] at q1
      cases q1
      exact .base (.lst q3)
    · cases h
/-- what each of them asks -/
def RBi (K : PySem.W.Frag) : Bi → List V → Hp → VK → Prop
  | .len => fun xs H Q => ∃ x n, xs = [x] ∧ LenV K x H n ∧ Q (.int n) H
  | .isi => rIsi K
  | .int => fun xs H Q => (∃ i, xs = [.int i] ∧ Q (.int i) H) ∨ ∃ k, xs = [.bl k] ∧ Q (.int (if k then 1 else 0)) H
  | .max => fun xs H Q => (∃ i j, xs = [.int i, .int j] ∧ Q (.int (if j > i then j else i)) H) ∨ rMax K xs H Q
  | .min => fun xs H Q => (∃ i j, xs = [.int i, .int j] ∧ Q (.int (if j < i then j else i)) H) ∨ rMin K xs H Q
  | .sum => rSum K
  | .repr => RRepr K
  | .list _ => fun xs H Q => ∃ p ys, xs = [.ref p] ∧ (SqL K H p ys ∨ SqT K H p ys) ∧ ∀ l, H l = none → Q (.ref l) (upd H l (.lst ys))
theorem o_bi (hc : X.calm = true) (hg : X.A.guards = some []) (hu : X.A.units + 66 < cLine) : ∀ b : Bi, CallR X b.val (RBi X.K b)
  | .len => call_len
  | .isi => call_isi
  | .int => call_int1
  | .max => CallR.or (call_max2 hc) (cr_max hc)
  | .min => CallR.or (call_min2 hc) (cr_min hc)
  | .sum => cr_sum hc
  | .repr => o_repr hg hu
  | .list _ => call_list_of
theorem rel1 {g : Gh} {x : Z} {us : List V} (r : RelZs K T g [x] us) : ∃ u, us = [u] ∧ RelZ K T g x u := by
  obtain ⟨v, ws, e, r1, r2⟩ := r
  cases r2
  exact ⟨v, e, r1⟩
theorem rel2 {g : Gh} {x y : Z} {us : List V} (r : RelZs K T g [x, y] us) : ∃ u v, us = [u, v] ∧ RelZ K T g x u ∧ RelZ K T g y v := by
  obtain ⟨v, ws, e, r1, r2⟩ := r
  obtain ⟨w, rfl, r3⟩ := rel1 r2
  exact ⟨v, w, e, r1, r3⟩
theorem s_bi (b : Bi) : OpN K T (RBi K b) (biSem b) := by
  intro g M H xs us a M' Q S r e f
  unfold biSem at e
  split at e
  · -- len
    rename_i x
    obtain ⟨u, rfl, ru⟩ := rel1 r
    split at e
    · split at e
      · cases e
        cases ru
        exact ⟨_, _, rfl, ⟨by assumption, rfl⟩, fin_at S f rfl⟩
      · cases e
    · cases e
      obtain ⟨p, vs, rfl, hp, rs⟩ := ru
      refine ⟨_, _, rfl, .inr ⟨vs, sqT_of S hp, rfl⟩, ?_⟩
      rw [rs.length]
      exact fin_at S f rfl
    · obtain ⟨l, el, q⟩ := Option.map_eq_some_iff.mp e
      cases q
      obtain ⟨p, vs, rfl, hp, rs⟩ := itsL_ok S ru el
      refine ⟨_, _, rfl, .inl ⟨vs, hp, rfl⟩, ?_⟩
      rw [rs.length]
      exact fin_at S f rfl
  · -- isinstance
    rename_i x t
    obtain ⟨u, v, rfl, ru, rv⟩ := rel2 r
    split at e
    · split at e
      · cases e
      · rename_i ty ht hn
        cases e
        cases rv
        exact ⟨u, _, _, _, _, rfl, .ty _, tyM_ok S ru ht, kit_ty (kitB_sub _ _ hn), fin_at S f rfl⟩
    · cases e
  · -- int
    obtain ⟨u, rfl, ru⟩ := rel1 r
    split at e
    · cases e
      cases ru
      exact .inl ⟨_, rfl, fin_at S f rfl⟩
    · cases e
      cases ru
      exact .inr ⟨_, rfl, fin_at S f rfl⟩
    · cases e
  · -- max
    obtain ⟨u, v, rfl, ru, rv⟩ := rel2 r
    cases e
    cases ru
    cases rv
    exact .inl ⟨_, _, rfl, fin_at S f rfl⟩
  · obtain ⟨u, rfl, ru⟩ := rel1 r
    split at e
    · rename_i i r' he
      cases e
      obtain ⟨l, e1, e2⟩ := Option.bind_eq_some_iff.mp he
      obtain ⟨p, vs, rfl, hp, rs⟩ := itsL_ok S ru e1
      rw [intsL_rel rs e2] at hp
      refine .inr ⟨p, _, rfl, hp, Nat.succ_pos _, fun m hm hle => ?_⟩
      obtain ⟨h1, h2⟩ := maxI_ok r' i
      have : m = maxI i r' := Int.le_antisymm (h2 m hm) (hle _ h1)
      rw [this]
      exact fin_at S f rfl
    · cases e
  · -- min
    obtain ⟨u, v, rfl, ru, rv⟩ := rel2 r
    cases e
    cases ru
    cases rv
    exact .inl ⟨_, _, rfl, fin_at S f rfl⟩
  · obtain ⟨u, rfl, ru⟩ := rel1 r
    split at e
    · rename_i i r' he
      cases e
      obtain ⟨l, e1, e2⟩ := Option.bind_eq_some_iff.mp he
      obtain ⟨p, vs, rfl, hp, rs⟩ := itsL_ok S ru e1
      rw [intsL_rel rs e2] at hp
      refine .inr ⟨p, _, rfl, hp, Nat.succ_pos _, fun m hm hle => ?_⟩
      obtain ⟨h1, h2⟩ := minI_ok r' i
      have : m = minI i r' := Int.le_antisymm (hle _ h1) (h2 m hm)
      rw [this]
      exact fin_at S f rfl
    · cases e
  · -- sum
    obtain ⟨u, rfl, ru⟩ := rel1 r
    split at e
    · rename_i l he
      cases e
      obtain ⟨l', e1, e2⟩ := Option.bind_eq_some_iff.mp he
      obtain ⟨p, vs, rfl, hp, rs⟩ := itsL_ok S ru e1
      rw [intsL_rel rs e2] at hp
      exact ⟨p, _, rfl, hp, fin_at S f rfl⟩
    · cases e
  · -- repr
    obtain ⟨u, rfl, ru⟩ := rel1 r
    split at e
    · cases e
      obtain ⟨p, rfl, hp⟩ := ru
      exact ⟨_, _, rfl, .inr ⟨p, rfl, S.fr _ _ hp, rfl⟩, by decide +kernel, fin_at S f rfl⟩
    · split at e
      · rename_i d hd
        split at e
        · cases e
          exact ⟨u, d, rfl, .inl (dp_of S 32 _ _ _ ru hd), by assumption, fin_at S f rfl⟩
        · cases e
      · cases e
  · -- list
    obtain ⟨u, rfl, ru⟩ := rel1 r
    split at e
    · obtain ⟨rfl, rfl⟩ := newL_eq e
      obtain ⟨p, vs, rfl, hp, rs⟩ := ru
      exact ⟨p, vs, rfl, .inr (sqT_of S hp), fun b hb => newL_ok S rs f hb⟩
    · split at e
      · rename_i l el
        obtain ⟨rfl, rfl⟩ := newL_eq e
        obtain ⟨p, vs, rfl, hp, rs⟩ := itsL_ok S ru el
        exact ⟨p, vs, rfl, .inl hp, fun b hb => newL_ok S rs f hb⟩
      · cases e
  · cases e
end
end ZM
end
section
/-! ZM, part G: the machine's terms, what they do, and the check that a term is that of a text. -/
namespace ZM
open PySem L2 PyProof.Rows

inductive O2 where
  | add (m : Bool) | sub | mul (m : Bool) | fdiv | mod | pow | shl | shr
  deriving DecidableEq
def O2.op : O2 → Operator
  | .add _ => .Add
  | .sub => .Sub
  | .mul _ => .Mult
  | .fdiv => .FloorDiv
  | .mod => .Mod
  | .pow => .Pow
  | .shl => .LShift
  | .shr => .RShift
def O2.sem : O2 → Z → Z → Mem → VO Z
  | .add m => sAdd m
  | .sub => sSub
  | .mul m => sMul m
  | .fdiv => sFdiv
  | .mod => sMod
  | .pow => sPow
  | .shl => sShl
  | .shr => sShr
inductive C2 where
  | eq | ne | lt | le | gt | ge | is | isNot | «in» | notIn
  deriving DecidableEq
def C2.op : C2 → CmpOp
  | .eq => .Eq
  | .ne => .NotEq
  | .lt => .Lt
  | .le => .LtE
  | .gt => .Gt
  | .ge => .GtE
  | .is => .Is
  | .isNot => .IsNot
  | .in => .In
  | .notIn => .NotIn
def C2.sem : C2 → Z → Z → Mem → VO Z
  | .eq => sEq false
  | .ne => sEq true
  | .lt => sOrd fun i j => decide (i < j)
  | .le => sOrd fun i j => decide (i ≤ j)
  | .gt => sOrd fun i j => decide (j < i)
  | .ge => sOrd fun i j => decide (j ≤ i)
  | .is => sIs false
  | .isNot => sIs true
  | .in => sIn false
  | .notIn => sIn true
/-- methods of built-in types -/
inductive Me where
  | append | pop | popAt | bits
  deriving DecidableEq
def Me.name : Me → Str
  | .append => "append"
  | .pop => "pop"
  | .popAt => "pop"
  | .bits => "bit_length"
/-- what a for walks -/
inductive It where
  | list | tup | range1 | range2 | enum | zip
  deriving DecidableEq
inductive Tg where
  | name (i : Nat) | tup (l : List Tg)
inductive E where
  | var (i : Nat) | c (z : Z) | gv (j : Nat)
  | op (o : O2) (a b : E) | cmp (o : C2) (a b : E) | chain (o o' : C2) (a b c : E)
  | neg (a : E) | not (a : E) | and (a b : E) | or (a b : E) | ite (c a b : E)
  | tup (l : List E) | lst (m : Bool) (l : List E) | dic0
  | ix (a i : E) | slA (m : Bool) (a lo : E) | slB (m : Bool) (a hi : E) | slC (m : Bool) (a lo hi : E) | slD (m : Bool) (a : E) | frz (a : E)
  | call (j k : Nat) (l : List E) | callK (j k : Nat) (n : Nat) (l : List E) (p : List Nat)
  | bi (b : Bi) (l : List E) | me (b : Me) (o : E) (l : List E)
  | comp (m : Bool) (e : E) (tg : Tg) (it : It) (src ifs : List E)
inductive S where
  | pass | brk | cnt | ret (e : E) | retN | ex (e : E)
  | asg (t : Tg) (e : E) | par (ts : List Nat) (es : List E) | setIx (o i e : E)
  | ife (c : E) (a b : List S) | for_ (tg : Tg) (it : It) (src : List E) (b : List S) | whl (c : E) (b : List S) | nev

/-- what a global name is: a def, a built-in function, a built-in type, a constant -/
inductive GV where
  | fn (k : Nat) | blt | ty (t : Ty) | con (z : Z)
def GV.z : GV → Z
  | .fn k => .fn k
  | .blt => .non
  | .ty t => .ty t
  | .con z => z
abbrev Glb := List (Str × GV)
def Glb.z (G : Glb) (j : Nat) : Z := match G[j]? with
  | some (_, v) => v.z
  | none => .non

/-! ### what they do -/
abbrev Calls := Nat → List Z → Mem → Res Z
/-- results by flow -/
inductive Fl where
  | nx (η : Sl) | rt (z : Z) | bk (η : Sl) | ct (η : Sl)
abbrev ZS := Sl → Mem → Res Fl
/-- no exception may leave -/
def Res.noX {α : Type} : Res α → Res α
  | .ok a M => .ok a M
  | _ => .stuck
mutual
/-- a target is given a value -/
def asg : Tg → Z → Sl → Option Sl
  | .name i, z, η => if i < η.length then some (η.set i (some z)) else none
  | .tup ts, z, η => match z with
    | .tup l => asgs ts l η
    | _ => none
def asgs : List Tg → List Z → Sl → Option Sl
  | [], [], η => some η
  | t :: ts, z :: zs, η => match asg t z η with
    | some η1 => asgs ts zs η1
    | none => none
  | _, _, _ => none
end
mutual
def Tg.own : Tg → List Nat
  | .name i => [i]
  | .tup ts => Tg.owns ts
def Tg.owns : List Tg → List Nat
  | [] => []
  | t :: ts => t.own ++ Tg.owns ts
end
/-- the block's own names are forgotten -/
def wipeZ (η : Sl) : List Nat → Sl
  | [] => η
  | i :: r => (wipeZ η r).set i none
def rangeZ (lo : Int) : Nat → List Z
  | 0 => []
  | n + 1 => .int lo :: rangeZ (lo + 1) n
def enumZ : Int → List Z → List Z
  | _, [] => []
  | i, z :: r => .tup [.int i, z] :: enumZ (i + 1) r
def zipZ : List Z → List Z → List Z
  | x :: xs, y :: ys => .tup [x, y] :: zipZ xs ys
  | _, _ => []
/-- the list of a frozen list value -/
def frzL : Z → Option (List Z)
  | .lst l => some l
  | .scr l => some (l.map .int)
  | _ => none
def itList (zs : List Z) : Option (List Z) := match zs with
  | [x] => frzL x
  | _ => none
def itTup (zs : List Z) : Option (List Z) := match zs with
  | [.tup l] => some l
  | _ => none
def itRange1 (zs : List Z) : Option (List Z) := match zs with
  | [.int j] => if decide (-(2 ^ 62) ≤ j) && decide (j < 2 ^ 62) then some (rangeZ 0 j.toNat) else none
  | _ => none
def itRange2 (zs : List Z) : Option (List Z) := match zs with
  | [.int i, .int j] => if decide (-(2 ^ 62) ≤ i) && decide (i < 2 ^ 62) && decide (-(2 ^ 62) ≤ j) && decide (j < 2 ^ 62) then some (rangeZ i (j - i).toNat) else none
  | _ => none
def itEnum (zs : List Z) : Option (List Z) := match zs with
  | [x] => (frzL x).map (enumZ 0)
  | _ => none
def itZip (zs : List Z) : Option (List Z) := match zs with
  | [x, y] => match frzL x, frzL y with
    | some a, some b => if a.length = b.length then some (zipZ a b) else none
    | _, _ => none
  | _ => none
/-- the items that are walked -/
def itemsZ : It → List Z → Option (List Z)
  | .list => itList
  | .tup => itTup
  | .range1 => itRange1
  | .range2 => itRange2
  | .enum => itEnum
  | .zip => itZip
/-- a comprehension's turns -/
def turns (η : Sl) (tg : Tg) (t : ZT) (e : ZE) : List Z → List Z → Mem → Res (List Z)
  | [], acc, M => .ok acc M
  | z :: r, acc, M => match asg tg z η with
    | none => .stuck
    | some η1 => (t η1 M).noX.bind fun b M1 => if b = true then (e η1 M1).noX.bind fun y M2 => if acc.length < sizeLine then turns η tg t e r (acc ++ [y]) M2 else .stuck else turns η tg t e r acc M1
/-- a for's turns -/
def forZ (tg : Tg) (b : ZS) : List Z → ZS
  | [], η, M => .ok (.nx η) M
  | z :: r, η, M => match asg tg z η with
    | none => .stuck
    | some η1 => (b η1 M).bind fun fl M1 => match fl with
      | .nx η2 => forZ tg b r η2 M1
      | .ct η2 => forZ tg b r η2 M1
      | .bk η2 => .ok (.nx η2) M1
      | .rt z => .ok (.rt z) M1
def whlZ (c : ZT) (b : ZS) : Nat → ZS
  | 0, _, _ => .stuck
  | n + 1, η, M => (c η M).bind fun t M1 => if t = true then (b η M1).bind fun fl M2 => match fl with
      | .nx η2 => whlZ c b n η2 M2
      | .ct η2 => whlZ c b n η2 M2
      | .bk η2 => .ok (.nx η2) M2
      | .rt z => .ok (.rt z) M2
    else .ok (.nx η) M1
/-- a value's truth as a test -/
def tst (z : Z) (M : Mem) : Res Bool := match truZ M z with
  | some b => .ok b M
  | none => .stuck
def notR : Res Bool → Res Z := fun r => r.bind fun b M => .ok (.bl (!b)) M
/-- a test on a bool's value alone -/
def tstB (z : Z) (M : Mem) : Res Bool := match z with
  | .bl b => .ok b M
  | _ => .stuck
/-- a list that will never be written again -/
def frzR (z : Z) (M : Mem) : Res Z := match z with
  | .ref n => match M[n]? with
    | some (.lst l) => .ok (.lst l) (M.set n .dead)
    | _ => .stuck
  | _ => .stuck
/-- the receiver of a method -/
def rcv : Me → Z → Mem → Bool
  | .bits, .int _, _ => true
  | .bits, _, _ => false
  | _, .ref n, M => match M[n]? with
    | some (.lst _) => true
    | _ => false
  | _, _, _ => false
def sAppend (n : Nat) (zs : List Z) (M : Mem) : VO Z := match zs with
  | [y] => match M[n]? with
    | some (.lst l) => if l.length < sizeLine then some (.non, M.set n (.lst (l ++ [y]))) else none
    | _ => none
  | _ => none
def sPop (n : Nat) (zs : List Z) (M : Mem) : VO Z := match zs with
  | [] => match M[n]? with
    | some (.lst l) => match l[l.length - 1]? with
      | some y => some (y, M.set n (.lst l.dropLast))
      | none => none
    | _ => none
  | _ => none
def sPopAt (n : Nat) (zs : List Z) (M : Mem) : VO Z := match zs with
  | [.int i] => match M[n]? with
    | some (.lst l) => if decide (-(2 ^ 63) ≤ i) && decide (i < 2 ^ 63) then match seqIndex? i l.length with
      | some k => match l[k]? with
        | some y => some (y, M.set n (.lst (l.eraseIdx k)))
        | none => none
      | none => none else none
    | _ => none
  | _ => none
def sBits (i : Int) (zs : List Z) (M : Mem) : VO Z := match zs with
  | [] => some (.int (Builtin.Int.intBits i : Nat), M)
  | _ => none
def meSem : Me → Z → List Z → Mem → VO Z
  | .append, .ref n, zs, M => sAppend n zs M
  | .pop, .ref n, zs, M => sPop n zs M
  | .popAt, .ref n, zs, M => sPopAt n zs M
  | .bits, .int i, zs, M => sBits i zs M
  | _, _, _, _ => none
/-- keywords put in their places -/
def permZ (l : List Z) : List Nat → List Z
  | [] => []
  | i :: r => (l.getD i .non) :: permZ l r
section
variable (C : Calls) (G : Glb)
mutual
def den : E → ZE
  | .var i => zVar i
  | .c z => zC z
  | .gv j => zC (G.z j)
  | .op o a b => zOp o.sem (den a) (den b)
  | .cmp o a b => zOp o.sem (den a) (den b)
  | .chain o o' a b c => fun η M => (den a η M).bind fun x M1 => (den b η M1).bind fun y M2 => (ofO (o.sem x y M2)).bind fun t M3 => (tstB t M3).bind fun k M4 => if k = true then (den c η M4).bind fun w M5 => ofO (o'.sem y w M5) else .ok (.bl false) M4
  | .neg a => zUn sNeg (den a)
  | .not a => fun η M => notR ((den a η M).bind tst)
  | .and a b => fun η M => (den a η M).bind fun x M1 => (tst x M1).bind fun k M2 => if k = true then den b η M2 else .ok x M2
  | .or a b => fun η M => (den a η M).bind fun x M1 => (tst x M1).bind fun k M2 => if k = true then .ok x M2 else den b η M2
  | .ite c a b => fun η M => ((den c η M).bind tst).bind fun k M1 => if k = true then den a η M1 else den b η M1
  | .tup l => fun η M => (dens l η M).bind fun zs M1 => if zs.length ≤ sizeLine then .ok (.tup zs) M1 else .stuck
  | .lst m l => fun η M => (dens l η M).bind fun zs M1 => if zs.length ≤ sizeLine then ofO (some (newL m zs M1)) else .stuck
  | .dic0 => zC .dic0
  | .ix a i => zOp sIx (den a) (den i)
  | .slA m a lo => fun η M => (den a η M).bind fun x M1 => (den lo η M1).bind fun l M2 => match l with
    | .int i => ofO (sSl m x (some i) none M2)
    | _ => .stuck
  | .slB m a hi => fun η M => (den a η M).bind fun x M1 => (den hi η M1).bind fun l M2 => match l with
    | .int i => ofO (sSl m x none (some i) M2)
    | _ => .stuck
  | .slC m a lo hi => fun η M => (den a η M).bind fun x M1 => (den lo η M1).bind fun l M2 => match l with
    | .int i => (den hi η M2).bind fun h M3 => match h with
      | .int j => ofO (sSl m x (some i) (some j) M3)
      | _ => .stuck
    | _ => .stuck
  | .slD m a => fun η M => (den a η M).bind fun x M1 => ofO (sSl m x none none M1)
  | .frz a => fun η M => (den a η M).bind frzR
  | .call _ k l => fun η M => (dens l η M).bind fun zs M1 => C k zs M1
  | .callK _ k _ l p => fun η M => (dens l η M).bind fun zs M1 => C k (permZ zs p) M1
  | .bi b l => fun η M => (dens l η M).bind fun zs M1 => ofO (biSem b zs M1)
  | .me b o l => fun η M => (den o η M).bind fun x M1 => if rcv b x M1 = true then (dens l η M1).bind fun zs M2 => ofO (meSem b x zs M2) else .stuck
  | .comp m e tg it src ifs => fun η M => (dens src η M).bind fun zs M1 => match itemsZ it zs with
    | none => .stuck
    | some l => (turns (wipeZ η tg.own) tg (denT ifs) (den e) l [] M1).bind fun acc M2 => ofO (some (newL m acc M2))
def dens : List E → ZL
  | [] => fun _ M => .ok [] M
  | e :: r => fun η M => (den e η M).bind fun z M1 => (dens r η M1).bind fun zs M2 => .ok (z :: zs) M2
/-- tests in a row (at most one) -/
def denT : List E → ZT
  | [] => fun _ M => .ok true M
  | e :: _ => fun η M => (den e η M).bind tst
end
/-- the lid of a while's turns -/
def whlLid : Nat := 2 ^ 40
mutual
def run : S → ZS
  | .pass => fun η M => .ok (.nx η) M
  | .brk => fun η M => .ok (.bk η) M
  | .cnt => fun η M => .ok (.ct η) M
  | .ret e => fun η M => (den C G e η M).bind fun z M1 => .ok (.rt z) M1
  | .retN => fun _ M => .ok (.rt .non) M
  | .ex e => fun η M => (den C G e η M).bind fun _ M1 => .ok (.nx η) M1
  | .asg t e => fun η M => (den C G e η M).bind fun z M1 => match asg t z η with
    | some η1 => .ok (.nx η1) M1
    | none => .stuck
  | .par ts es => fun η M => (dens C G es η M).bind fun zs M1 => match asgs (ts.map .name) zs η with
    | some η1 => .ok (.nx η1) M1
    | none => .stuck
  | .setIx o i e => fun η M => (den C G e η M).bind fun z M1 => (den C G o η M1).bind fun x M2 => (den C G i η M2).bind fun y M3 => match x, y with
    | .ref n, .int k => match M3[n]? with
      | some (.lst l) => match ixN l.length k with
        | some j => .ok (.nx η) (M3.set n (.lst (l.set j z)))
        | none => .stuck
      | _ => .stuck
    | _, _ => .stuck
  | .ife c a b => fun η M => ((den C G c η M).bind tst).bind fun k M1 => if k = true then runs a η M1 else runs b η M1
  | .for_ tg it src b => fun η M => (dens C G src η M).bind fun zs M1 => match itemsZ it zs with
    | none => .stuck
    | some l => forZ tg (runs b) l η M1
  | .whl c b => whlZ (fun η M => (den C G c η M).bind tst) (runs b) whlLid
  | .nev => fun _ _ => .stuck
def runs : List S → ZS
  | [] => fun η M => .ok (.nx η) M
  | s :: r => fun η M => (run s η M).bind fun fl M1 => match fl with
    | .nx η1 => runs r η1 M1
    | fl => .ok fl M1
end
end
end ZM
end
section
/-! ZM, part H: the check that a term is that of a text. -/
namespace ZM
open PySem L2 PyProof.Rows

/-- a def: its parameters, and the ways of calling it by keywords: positional ones, the keywords, the places -/
structure FnI where
  ps : List Str
  kw : List (Nat × List Str × List Nat)
def isTup : Expr → Bool
  | .Tuple .. => true
  | _ => false
def plainX (x : Str) : Bool := !(x == ("__debug__" : Str)) && !(x == ("__classdict__" : Str))
def visB (sc : Scope) (x : Str) : Bool := match sc.names.lookup x with
  | some .local => true
  | some .cell => true
  | some .free => true
  | _ => false
def globB (sc : Scope) (x : Str) : Bool := match sc.names.lookup x with
  | some .globalImplicit => true
  | _ => false
/-- may be stored here -/
def stoB (sc : Scope) (fn : Str → Bool) (x : Str) : Bool := match sc.names.lookup x with
  | some .local => true
  | some .cell => fn x
  | _ => false
def notStar : Expr → Bool
  | .Starred .. => false
  | _ => true
def notSlice : Expr → Bool
  | .Slice .. => false
  | _ => true
def notSet : Expr → Bool
  | .Set .. => false
  | _ => true
def baseOk : Expr → Bool
  | .Call (.Name _ _) [] [] _ => false
  | _ => true
/-- an expression that is tested by its value alone -/
def plainT : Expr → Bool
  | .Name .. => true
  | .Call .. => true
  | .Subscript .. => true
  | .Constant .. => true
  | _ => false
section
variable (N : List Str) (G : Glb) (I : Nat → FnI)
mutual
def okTg (sc : Scope) (fn : Str → Bool) : Tg → Expr → Bool
  | .name i, .Name x _ => decide (N[i]? = some x) && stoB sc fn x
  | .tup ts, .Tuple es _ _ => okTgs sc fn ts es
  | _, _ => false
def okTgs (sc : Scope) (fn : Str → Bool) : List Tg → List Expr → Bool
  | [], [] => true
  | t :: ts, e :: es => notStar e && okTg sc fn t e && okTgs sc fn ts es
  | _, _ => false
end
def ownN : List Nat → List (Str × Nat)
  | [] => []
  | i :: r => (N.getD i (Str.ofString ""), i) :: ownN r
def gFn (j k : Nat) (x : Str) : Bool := match G[j]? with
  | some (y, .fn k') => y == x && k == k'
  | _ => false
def gBlt (x : Str) : Bool := match G.lookup x with
  | some .blt => true
  | _ => false
def gVal (j : Nat) (x : Str) : Bool := match G[j]? with
  | some (_, .blt) => false
  | some (y, _) => y == x
  | none => false
mutual
def okE (t : Bool) (sc : Scope) : E → Expr → Bool
  | .var i, a => match a with
    | .Name x _ => decide (N[i]? = some x) && visB sc x && plainX x
    | _ => false
  | .c z, a => match z, a with
    | .non, .Constant .none _ _ => true
    | .bl b, .Constant (.bool b') _ _ => b == b'
    | .int i, .Constant (.int i') _ _ => decide (i = i')
    | .str s, .Constant (.str s') _ _ => s == s'
    | _, _ => false
  | .gv j, a => match a with
    | .Name x _ => gVal G j x && globB sc x && plainX x && !(x == ("__name__" : Str))
    | _ => false
  | .op o l r, a => match a with
    | .BinOp el op er _ => !t && decide (op = o.op) && okE false sc l el && okE false sc r er
    | _ => false
  | .cmp o l r, a => match a with
    | .Compare el [op] [er] _ => decide (op = o.op) && notSet er && okE false sc l el && okE false sc r er
    | _ => false
  | .chain o o' l m r, a => match a with
    | .Compare el [op, op'] [em, er] _ => decide (op = o.op) && decide (op' = o'.op) && notSet er && okE false sc l el && okE false sc m em && okE false sc r er
    | _ => false
  | .neg e, a => match a with
    | .UnaryOp .USub x _ => !t && okE false sc e x
    | _ => false
  | .not e, a => match a with
    | .UnaryOp .Not x _ => okE t sc e x
    | _ => false
  | .and l r, a => match a with
    | .BoolOp .And [x, y] _ => okE t sc l x && okE t sc r y
    | .BoolOp .And (x :: y :: z :: u) p => okE t sc l x && okE t sc r (.BoolOp .And (y :: z :: u) p)
    | _ => false
  | .or l r, a => match a with
    | .BoolOp .Or [x, y] _ => okE t sc l x && okE t sc r y
    | .BoolOp .Or (x :: y :: z :: u) p => okE t sc l x && okE t sc r (.BoolOp .Or (y :: z :: u) p)
    | _ => false
  | .ite c l r, a => match a with
    | .IfExp x y z _ => !t && okE true sc c x && okE false sc l y && okE false sc r z
    | _ => false
  | .tup l, a => match a with
    | .Tuple es _ _ => !t && okEs sc l es
    | _ => false
  | .lst _ l, a => match a with
    | .List es _ => !t && okEs sc l es
    | _ => false
  | .dic0, a => match a with
    | .Dict [] [] _ => !t
    | _ => false
  | .ix l r, a => match a with
    | .Subscript x y _ => notSlice y && okE false sc l x && okE false sc r y
    | _ => false
  | .slA _ l r, a => match a with
    | .Subscript x (.Slice (some y) none none _) _ => okE false sc l x && okE false sc r y
    | _ => false
  | .slB _ l r, a => match a with
    | .Subscript x (.Slice none (some y) none _) _ => okE false sc l x && okE false sc r y
    | _ => false
  | .slC _ l r h, a => match a with
    | .Subscript x (.Slice (some y) (some z) none _) _ => okE false sc l x && okE false sc r y && okE false sc h z
    | _ => false
  | .frz l, a => !t && okE false sc l a
  | .slD _ l, a => match a with
    | .Subscript x (.Slice none none none _) _ => okE false sc l x
    | _ => false
  | .call j k l, a => match a with
    | .Call (.Name x _) es [] _ => gFn G j k x && globB sc x && plainX x && decide (l.length = (I k).ps.length) && okEs sc l es
    | _ => false
  | .callK j k n l p, a => match a with
    | .Call (.Name x _) es kws _ => gFn G j k x && globB sc x && plainX x && decide (es.length = n) && decide ((n, kws.filterMap (·.arg), p) ∈ (I k).kw) && kws.all (fun q => q.arg.isSome) && !kws.isEmpty && okEs sc l (es ++ kws.map (·.value))
    | _ => false
  | .bi b l, a => match a with
    | .Call (.Name x _) (e :: es) [] _ => x == b.name && gBlt G x && globB sc x && okEs sc l (e :: es)
    | _ => false
  | .me b o l, a => match a with
    | .Call (.Attribute x n ap) es [] p => decide (es.length < 30) && (match b with | .bits => es.isEmpty | .pop => es.isEmpty | _ => !es.isEmpty) && n == b.name && baseOk x && (ap.endLine == p.line) && okE false sc o x && okEs sc l es
    | _ => false
  | .comp _ e tg it src ifs, a => match a with
    | .ListComp x [⟨y, iter, ts, isA⟩] scope _ => !t && decide (isA = 0) && notSet iter && blkC N sc scope (ownN N tg.own) && okTg N (relS scope sc) (fun n => scope.names.lookup n == some .cell) tg y && okE false (relS scope sc) e x && okIfs (relS scope sc) ifs ts &&
        (match it, iter with
        | .list, z => okEs sc src [z]
        | .tup, z => okEs sc src [z]
        | .range1, .Call (.Name f _) [u] [] _ => f == ("range" : Str) && gBlt G f && globB sc f && okEs sc src [u]
        | .range2, .Call (.Name f _) [u, v] [] _ => f == ("range" : Str) && gBlt G f && globB sc f && okEs sc src [u, v]
        | .enum, .Call (.Name f _) [u] [] _ => f == ("enumerate" : Str) && gBlt G f && globB sc f && okEs sc src [u] && isTup y
        | .zip, .Call (.Name f _) [u, v] [] _ => f == ("zip" : Str) && gBlt G f && globB sc f && okEs sc src [u, v] && isTup y
        | _, _ => false)
    | _ => false
def okEs (sc : Scope) : List E → List Expr → Bool
  | [], a => a.isEmpty
  | e :: r, a => match a with
    | x :: u => notStar x && okE false sc e x && okEs sc r u
    | [] => false
def okIfs (sc : Scope) : List E → List Expr → Bool
  | [], a => a.isEmpty
  | e :: r, a => match r, a with
    | [], [x] => okE true sc e x
    | _, _ => false
end
end
end ZM
end
section
/-! ZM, part I: contexts; a checked expression does what its term says. -/
namespace ZM
open PySem L2 PyProof.Rows

/-- what stands fixed through the law -/
structure Fix where
  P : Program
  w : World
  K : PySem.W.Frag
  mg : Str → Option Value
  base : Heap
  T : Tab
  G : Glb
  I : Nat → FnI
  fd : Nat → FuncData
def permV {α : Type} (d : α) (l : List α) : List Nat → List α
  | [] => []
  | i :: r => l.getD i d :: permV d l r
structure Fix.Ok (Φ : Fix) : Prop where
  glb : ∀ x v, (x, v) ∈ Φ.G → match v with
    | .fn k => Φ.mg x = some (.ref (Φ.T.fn k)) ∧ PySem.W.keepIn Φ.K (.ref (Φ.T.fn k)) = true
    | .blt => Φ.mg x = none
    | .ty t => Φ.mg x = none ∧ bootBuiltins x = some (.type t.name)
    | .con z => ∃ u v, Φ.mg x = some u ∧ RelV v u ∧ ∀ g, RelZ Φ.K Φ.T g z v
  bd : ∀ k s us, us.length = (Φ.I k).ps.length → BindsTo s (Φ.fd k) ⟨us, []⟩ ((Φ.I k).ps.zip us)
  kw : ∀ k n ks p s us ws, (n, ks, p) ∈ (Φ.I k).kw → us.length = n → ws.length = ks.length → p.length = (Φ.I k).ps.length ∧ BindsTo s (Φ.fd k) ⟨us, ks.zip ws⟩ ((Φ.I k).ps.zip (permV Value.none (us ++ ws) p))
/-- a def keeps what the machine says of it, with room for d calls -/
def FnZ (Φ : Fix) (C : Calls) (d k : Nat) : Prop := ∀ (A : Around) (outer : List Env) (s : Shared) (H : Hp) (args : Args) (us : List Value) (vs : List V) (zs : List Z) (g : Gh) (M : Mem) (Q : VK) (E : XK),
  Room d A → A.guards = some [] → Env0 Φ.P Φ.w Φ.K Φ.mg Φ.base A outer s H → BindsTo s (Φ.fd k) args ((Φ.I k).ps.zip us) → Vals vs us → Sim Φ.K Φ.T g M H → RelZs Φ.K Φ.T g zs vs → zs.length = (Φ.I k).ps.length →
  (C k zs M).To (Fin Φ.K Φ.T g Q) (Out Φ.K Φ.T E g) → codeAny (model Φ.P Φ.w) A (.call (.ref (Φ.T.fn k)) args) (CR (CX Φ.P Φ.w) outer Φ.P Φ.w H s Q E) s
/-- where one stands -/
structure At (Φ : Fix) (C : Calls) (d : Nat) (N : List Str) (X : Cx) (sc : Scope) (fn : Str → Bool) (W : XK) : Prop where
  eP : X.prog = Φ.P
  ew : X.w = Φ.w
  eK : X.K = Φ.K
  em : X.mg = Φ.mg
  eb : X.base = Φ.base
  eN : X.N = N
  es : X.env.scope = sc
  nd : N.Nodup
  calm : X.calm = true
  room : Room d X.A
  gd : X.A.guards = some []
  fn : ∀ x, fn x = true → X.fn x = true
  ps : Passes (CX Φ.P Φ.w) X W
  calls : ∀ k, FnZ Φ C d k
section
variable {Φ : Fix} {C : Calls} {d : Nat} {N : List Str} {X : Cx} {sc : Scope} {fn : Str → Bool} {W : XK}
theorem At.hu (a : At Φ C d N X sc fn W) : X.A.units + 66 < cLine := by
  have q := a.room.un
  omega
theorem At.blk (a : At Φ C d N X sc fn W) (s : Shared) (H : Hp) (scope : Scope) (cl : List (Str × Addr)) (D : Addr) (fp : List Addr) :
    At Φ C d N (X.blk s H scope (compEnvC scope cl D X.env) fp) (relS scope sc) (fun n => scope.names.lookup n == some .cell) (fun _ _ _ => False) where
  eP := a.eP
  ew := a.ew
  eK := a.eK
  em := a.em
  eb := a.eb
  eN := a.eN
  es := by
    rw [← a.es]
    rfl
  nd := a.nd
  calm := a.calm
  room := a.room
  gd := a.gd
  fn := fun _ h => h
  ps := fun _ _ _ _ _ _ _ h => by
    obtain ⟨_, _, _, _, _, _, _, _, _, _, _, _, z⟩ := h
    exact z.elim
  calls := a.calls
end

/-! ### small facts of the text's forms -/
theorem vis_of {X : Cx} {sc : Scope} {x : Str} (e : X.env.scope = sc) (h : visB sc x = true) : Vis X.env.scope x := by
  rw [e]
  unfold visB at h
  unfold Vis
  split at h <;> first | exact .inl (by assumption) | exact .inr (.inl (by assumption)) | exact .inr (.inr (by assumption)) | cases h
theorem glob_of {X : Cx} {sc : Scope} {x : Str} (e : X.env.scope = sc) (h : globB sc x = true) : Gl X x := by
  show X.env.scope.names.lookup x = _
  rw [e]
  unfold globB at h
  split at h
  · assumption
  · cases h
theorem plain_of {x : Str} (h : plainX x = true) : (x == ("__debug__" : Str)) = false ∧ (x == ("__classdict__" : Str)) = false := by
  unfold plainX at h
  simpa using h
theorem star_of {e : Expr} {es : List Expr} {env : Env} (h : notStar e = true) : starEach (e :: es) env = (false, eval e env) :: starEach es env := by
  cases e <;> first | rfl | cases h
theorem starAny {pos : Pos} {env : Env} : ∀ {es : List Expr}, es.all notStar = true → (backTo pos (starEach es env)).any (·.1) = false
  | [], _ => rfl
  | e :: es, h => by
    rw [List.all_cons, Bool.and_eq_true] at h
    rw [star_of h.1]
    have ih := starAny (pos := pos) (env := env) h.2
    unfold backTo at ih ⊢
    rw [List.map_cons, List.any_cons, ih]
    rfl
theorem set_of {e : Expr} {env : Env} (h : notSet e = true) : ∀ x, foldedSetIterable e env x = pure x := by
  intro x
  cases e <;> first | rfl | cases h
theorem slice_of {e : Expr} (h : notSlice e = true) : PlainIx e := by
  intro o i
  cases e <;> first | rfl | cases h
theorem marks_of {op : CmpOp} {e : Expr} (h : notSet e = true) : behindInMarks op e = false := by
  cases e <;> first | rfl | cases h
theorem marks2_of {op op' : CmpOp} {e e' : Expr} (h : notSet e' = true) : lastMarks [op, op'] [e, e'] = false := by
  show behindInMarks op' e' = false
  exact marks_of h
theorem base_of {e : Expr} {n : Str} {env : Env} (h : baseOk e = true) : attributeBase e n env (eval e env) = eval e env := by
  unfold attributeBase
  split
  · cases h
  · rfl
theorem plainT_of {e : Expr} {env : Env} (h : plainT e = true) : ∀ whole, isTrue e env whole = (do let v ← whole; standAt e.pos; holding [v] (truthy v)) := by
  intro whole
  cases e <;> first | rfl | cases h
end ZM
end
section
/-! ZM, part J: expressions, construct by construct. -/
namespace ZM
open PySem L2 PyProof.Rows

/-! ### operators by their codes -/
def RO (K : PySem.W.Frag) : O2 → R2
  | .add _ => RAdd
  | .sub => rI0 fun i j => .int (i - j)
  | .mul _ => RMul
  | .fdiv => rI CDivW fun i j => .int (i / j)
  | .mod => rI (fun _ j => 0 < j) fun i j => .int (i % j)
  | .pow => rI (fun i j => 0 ≤ j ∧ j ≤ 4000 ∧ smal i = true) fun i j => .int (i ^ j.toNat)
  | .shl => rI (fun i j => 0 ≤ j ∧ j ≤ 4000 ∧ smal i = true) fun i j => .int (i * 2 ^ j.toNat)
  | .shr => rI (fun _ j => 0 ≤ j) fun i j => .int (i / 2 ^ j.toNat)
def RC (K : PySem.W.Frag) : C2 → R2
  | .eq => REq K
  | .ne => RNe K
  | .lt => rI0 fun i j => .bl (decide (i < j))
  | .le => rI0 fun i j => .bl (decide (i ≤ j))
  | .gt => rI0 fun i j => .bl (decide (j < i))
  | .ge => rI0 fun i j => .bl (decide (j ≤ i))
  | .is => RIs
  | .isNot => RIsN
  | .in => RIn K
  | .notIn => RNotIn K
section
variable {K : PySem.W.Frag} {T : Tab} {X : Cx} {W : XK} {σ : St} {H : Hp}
theorem o_O2 (X : Cx) : ∀ o : O2, OpR X (binaryOp o.op) (RO K o)
  | .add _ => o_add X
  | .sub => op_sub
  | .mul _ => o_mul X
  | .fdiv => op_fdivW
  | .mod => op_mod
  | .pow => op_powZ
  | .shl => op_shlZ
  | .shr => op_shr
theorem s_O2 : ∀ o : O2, Op2 K T (RO K o) o.sem
  | .add m => s_add m
  | .sub => s_sub
  | .mul m => s_mul m
  | .fdiv => s_fdiv
  | .mod => s_mod
  | .pow => s_pow
  | .shl => s_shl
  | .shr => s_shr
theorem o_C2 (hu : X.A.units + 66 < cLine) (e : X.K = K) : ∀ o : C2, OpR X (compareOp o.op) (RC K o) := by
  intro o
  rw [← e]
  cases o
  · exact o_eq (by omega)
  · exact o_ne (by omega)
  · exact op_lt
  · exact op_le
  · exact op_gt
  · exact op_ge
  · exact o_is X
  · exact o_isN X
  · exact o_in (by omega)
  · exact o_notIn (by omega)
theorem s_C2 : ∀ o : C2, Op2 K T (RC K o) o.sem
  | .eq => s_eq
  | .ne => s_ne
  | .lt => s_ord _
  | .le => s_ord _
  | .gt => s_ord _
  | .ge => s_ord _
  | .is => s_is
  | .isNot => s_isN
  | .in => s_in
  | .notIn => s_notIn
/-- a comparison's answer is a bool -/
theorem C2.bool (o : C2) {x y a : Z} {M M' : Mem} (h : o.sem x y M = some (a, M')) : ∃ b, a = .bl b := by
  cases o <;> simp only [C2.sem] at h <;> first | unfold sEq at h | unfold sOrd at h | unfold sIs at h | unfold sIn at h
  all_goals
    split at h
    all_goals first | (cases h; exact ⟨_, rfl⟩) | (cases h; done) | skip
  all_goals
    split at h
    all_goals first | (cases h; exact ⟨_, rfl⟩) | (cases h; done) | skip
  all_goals
    split at h
    all_goals first | (cases h; exact ⟨_, rfl⟩) | (cases h; done)

/-! ### tests from values -/
theorem TB.go {z : ZE} {k : Sl → Z → Mem → Res Bool} {Q : VK} {Q' : Bool → Hp → Prop} (h : TB K T W (fun η M => (z η M).bind (k η)) σ H Q')
    (c : ∀ (g1 : Gh) (M1 : Mem) (η : Sl) (H1 : Hp) (a : Z) (v : V), Sim K T g1 M1 H1 → Slots K T g1 η σ → RelZ K T g1 a v → (k η a M1).To (FinB K T g1 Q') (Out K T W g1) → Q v H1) : TZ K T W z σ H Q := by
  obtain ⟨g, M, η, S, L, h⟩ := h
  refine ⟨g, M, η, S, L, h.bind.imp (fun a M1 h1 g1 H1 v e1 S1 r1 => ?_) fun _ _ _ q => q⟩
  exact c g1 M1 η H1 a v S1 (L.mono e1.toLeV) r1 (ToB.le h1 e1)
theorem TB.next {t : ZT} {k : Sl → Bool → Mem → Res Bool} {Q Q' : Bool → Hp → Prop} (h : TB K T W (fun η M => (t η M).bind (k η)) σ H Q')
    (c : ∀ (g1 : Gh) (M1 : Mem) (η : Sl) (H1 : Hp) (b : Bool), Sim K T g1 M1 H1 → Slots K T g1 η σ → (k η b M1).To (FinB K T g1 Q') (Out K T W g1) → Q b H1) : TB K T W t σ H Q := by
  obtain ⟨g, M, η, S, L, h⟩ := h
  refine ⟨g, M, η, S, L, h.bind.imp (fun b M1 h1 g1 H1 e1 S1 => ?_) fun _ _ _ q => q⟩
  exact c g1 M1 η H1 b S1 (L.mono e1.toLeV) (ToB.le h1 e1)
theorem TB.then_ {t : ZT} {k : Sl → Bool → Mem → Res Z} {Q : Bool → Hp → Prop} {Q' : VK} (h : TZ K T W (fun η M => (t η M).bind (k η)) σ H Q')
    (c : ∀ (g1 : Gh) (M1 : Mem) (η : Sl) (H1 : Hp) (b : Bool), Sim K T g1 M1 H1 → Slots K T g1 η σ → (k η b M1).To (Fin K T g1 Q') (Out K T W g1) → Q b H1) : TB K T W t σ H Q := by
  obtain ⟨g, M, η, S, L, h⟩ := h
  refine ⟨g, M, η, S, L, h.bind.imp (fun b M1 h1 g1 H1 e1 S1 => ?_) fun _ _ _ q => q⟩
  exact c g1 M1 η H1 b S1 (L.mono e1.toLeV) (To.le h1 e1)
theorem tst_ok {g : Gh} {M : Mem} {z : Z} {Q : Bool → Hp → Prop} (h : (tst z M).To (FinB K T g Q) (Out K T W g)) : ∃ b, truZ M z = some b ∧ FinB K T g Q b M := by
  unfold tst at h
  split at h
  · exact ⟨_, by assumption, h⟩
  · exact h.elim
theorem TB.tru {z : ZE} {Q : Bool → Hp → Prop} (h : TB K T W (fun η M => (z η M).bind tst) σ H Q) : TZ K T W z σ H (fun x H' => ∃ k, TruV K x H' k ∧ Q k H') := by
  refine TB.go (k := fun _ => tst) h fun g1 M1 η H1 a v S L r q => ?_
  obtain ⟨b, e, f⟩ := tst_ok q
  exact ⟨b, ZM.tru_ok S r e, f g1 H1 (Le.refl _) S⟩
/-- where the value is a bool -/
theorem TB.bl {z : ZE} {Q : Bool → Hp → Prop} (hb : ∀ η M a M', z η M = .ok a M' → ∃ b, a = .bl b) (h : TB K T W (fun η M => (z η M).bind tst) σ H Q) : TZ K T W z σ H (fun x H' => ∃ k, x = .bl k ∧ Q k H') := by
  obtain ⟨g, M, η, S, L, h⟩ := h
  refine ⟨g, M, η, S, L, ?_⟩
  dsimp only at h
  try dsimp only
  cases e : z η M with
  | stuck =>
    rw [e] at h
    exact h
  | exc k v M' =>
    rw [e] at h
    exact h
  | ok a M' =>
    rw [e] at h
    obtain ⟨b, rfl⟩ := hb η M a M' e
    intro g' H' v e' S' r
    cases r
    exact ⟨b, rfl, h g' H' e' S'⟩
theorem TB.imp {t : ZT} {Q Q' : Bool → Hp → Prop} (h : TB K T W t σ H Q) (i : ∀ b H, Q b H → Q' b H) : TB K T W t σ H Q' := by
  obtain ⟨g, M, η, S, L, h⟩ := h
  exact ⟨g, M, η, S, L, h.imp (fun b M1 f g1 H1 e1 S1 => i _ _ (f g1 H1 e1 S1)) fun _ _ _ q => q⟩

/-! ### and, or, not, if -/
theorem z_notV {z : ZE} {Q : VK} (h : TZ K T W (fun η M => notR ((z η M).bind tst)) σ H Q) : tNotT K (TZ K T W z) σ H Q := by
  have h2 : TB K T W (fun η M => (z η M).bind tst) σ H (fun b H' => Q (.bl (!b)) H') := by
    refine TB.then_ (k := fun _ b M => .ok (.bl (!b)) M) h fun g1 M1 η H1 b S L q => ?_
    exact q g1 H1 _ (Le.refl _) S rfl
  exact TB.tru h2
theorem z_notB {z : ZE} {Q : Bool → Hp → Prop} (h : TB K T W (fun η M => (notR ((z η M).bind tst)).bind tst) σ H Q) : tNot (TB K T W (fun η M => (z η M).bind tst)) σ H Q := by
  obtain ⟨g, M, η, S, L, h⟩ := h
  refine ⟨g, M, η, S, L, ?_⟩
  have h2 := h.bind
  unfold notR at h2
  exact h2.bind.imp (fun b M1 f g' H' e' S' => f g' H' e' S') fun _ _ _ q => q
theorem z_andV {za zb : ZE} {Q : VK} (h : TZ K T W (fun η M => (za η M).bind fun x M1 => (tst x M1).bind fun k M2 => if k = true then zb η M2 else .ok x M2) σ H Q) : tAndT K (TZ K T W za) (TZ K T W zb) σ H Q := by
  refine TZ.go (k := fun η x M1 => (tst x M1).bind fun k M2 => if k = true then zb η M2 else .ok x M2) h fun g1 M1 η H1 x v S L r q => ?_
  unfold tst at q
  split at q
  · rename_i b e
    refine ⟨b, ZM.tru_ok S r e, ?_⟩
    cases b with
    | true => exact ⟨g1, M1, η, S, L, q⟩
    | false => exact q g1 H1 v (Le.refl _) S r
  · exact q.elim
theorem z_orV {za zb : ZE} {Q : VK} (h : TZ K T W (fun η M => (za η M).bind fun x M1 => (tst x M1).bind fun k M2 => if k = true then .ok x M2 else zb η M2) σ H Q) : tOrT K (TZ K T W za) (TZ K T W zb) σ H Q := by
  refine TZ.go (k := fun η x M1 => (tst x M1).bind fun k M2 => if k = true then .ok x M2 else zb η M2) h fun g1 M1 η H1 x v S L r q => ?_
  unfold tst at q
  split at q
  · rename_i b e
    refine ⟨b, ZM.tru_ok S r e, ?_⟩
    cases b with
    | true => exact q g1 H1 v (Le.refl _) S r
    | false => exact ⟨g1, M1, η, S, L, q⟩
  · exact q.elim
theorem tst_twice {x : Z} {M : Mem} {b : Bool} (e : truZ M x = some b) : tst x M = .ok b M := by
  unfold tst
  rw [e]
theorem z_andB {za zb : ZE} {Q : Bool → Hp → Prop} (h : TB K T W (fun η M => ((za η M).bind fun x M1 => (tst x M1).bind fun k M2 => if k = true then zb η M2 else .ok x M2).bind tst) σ H Q) :
    tAnd (TB K T W (fun η M => (za η M).bind tst)) (TB K T W (fun η M => (zb η M).bind tst)) σ H Q := by
  obtain ⟨g, M, η, S, L, h⟩ := h
  refine ⟨g, M, η, S, L, ?_⟩
  dsimp only at h
  try dsimp only
  cases e : za η M with
  | stuck => rw [e] at h; exact h
  | exc k v M' => rw [e] at h; exact h
  | ok x M1 =>
    rw [e] at h
    change (((tst x M1).bind fun k M2 => if k = true then zb η M2 else .ok x M2).bind tst).To _ _ at h
    change (tst x M1).To _ _
    cases t : truZ M1 x with
    | none =>
      unfold tst at h
      rw [t] at h
      exact h.elim
    | some b =>
      rw [tst_twice t] at h ⊢
      intro g1 H1 e1 S1
      cases b with
      | true => exact ⟨g1, M1, η, S1, L.mono e1.toLeV, ToB.le h e1⟩
      | false =>
        change (tst x M1).To _ _ at h
        rw [tst_twice t] at h
        exact h g1 H1 e1 S1
theorem z_orB {za zb : ZE} {Q : Bool → Hp → Prop} (h : TB K T W (fun η M => ((za η M).bind fun x M1 => (tst x M1).bind fun k M2 => if k = true then .ok x M2 else zb η M2).bind tst) σ H Q) :
    tOr (TB K T W (fun η M => (za η M).bind tst)) (TB K T W (fun η M => (zb η M).bind tst)) σ H Q := by
  obtain ⟨g, M, η, S, L, h⟩ := h
  refine ⟨g, M, η, S, L, ?_⟩
  dsimp only at h
  try dsimp only
  cases e : za η M with
  | stuck => rw [e] at h; exact h
  | exc k v M' => rw [e] at h; exact h
  | ok x M1 =>
    rw [e] at h
    change (((tst x M1).bind fun k M2 => if k = true then .ok x M2 else zb η M2).bind tst).To _ _ at h
    change (tst x M1).To _ _
    cases t : truZ M1 x with
    | none =>
      unfold tst at h
      rw [t] at h
      exact h.elim
    | some b =>
      rw [tst_twice t] at h ⊢
      intro g1 H1 e1 S1
      cases b with
      | false => exact ⟨g1, M1, η, S1, L.mono e1.toLeV, ToB.le h e1⟩
      | true =>
        change (tst x M1).To _ _ at h
        rw [tst_twice t] at h
        exact h g1 H1 e1 S1
theorem z_ite {zc za zb : ZE} {Q : VK} (h : TZ K T W (fun η M => ((zc η M).bind tst).bind fun k M1 => if k = true then za η M1 else zb η M1) σ H Q) : tIf (TB K T W (fun η M => (zc η M).bind tst)) (TZ K T W za) (TZ K T W zb) σ H Q := by
  refine TB.then_ (k := fun η k M1 => if k = true then za η M1 else zb η M1) h fun g1 M1 η H1 b S L q => ?_
  cases b with
  | true => exact ⟨g1, M1, η, S, L, q⟩
  | false => exact ⟨g1, M1, η, S, L, q⟩
theorem z_chain {r r' : R2} {f f' : Z → Z → Mem → VO Z} (o : Op2 K T r f) (o' : Op2 K T r' f') {za zb zc : ZE} {Q : VK}
    (h : TZ K T W (fun η M => (za η M).bind fun x M1 => (zb η M1).bind fun y M2 => (ofO (f x y M2)).bind fun t M3 => (tstB t M3).bind fun k M4 => if k = true then (zc η M4).bind fun w M5 => ofO (f' y w M5) else .ok (.bl false) M4) σ H Q) :
    tChain r r' (TZ K T W za) (TZ K T W zb) (TZ K T W zc) σ H Q := by
  refine TZ.go (k := fun η x M1 => (zb η M1).bind fun y M2 => (ofO (f x y M2)).bind fun t M3 => (tstB t M3).bind fun k M4 => if k = true then (zc η M4).bind fun w M5 => ofO (f' y w M5) else .ok (.bl false) M4) h fun g1 M1 η H1 x u S1 L1 r1 h1 => ?_
  refine ⟨g1, M1, η, S1, L1, h1.bind.imp (fun y M2 h2 g2 H2 v e2 S2 r2 => ?_) fun _ _ _ q => q⟩
  obtain ⟨t, M3, e3, h3⟩ := To.ofO (Res.To.bind h2)
  refine o g2 M2 H2 x y u v t M3 _ S2 (r1.mono e2.toLeV) r2 e3 fun g3 H3 w3 e4 S3 r3 => ?_
  unfold tstB at h3
  split at h3
  · rename_i b
    cases r3
    refine ⟨b, rfl, ?_⟩
    cases b with
    | true =>
      rw [if_pos rfl]
      have h4 := To.le (K := K) (T := T) (W := W) (r := (zc η M3).bind fun w M5 => ofO (f' y w M5)) (To.le h3 e2) e4
      refine ⟨g3, M3, η, S3, L1.mono (e2.trans e4).toLeV, h4.bind.imp (fun w M5 h5 g5 H5 w5 e5 S5 r5 => ?_) fun _ _ _ q => q⟩
      obtain ⟨c, M', e6, f6⟩ := To.ofO h5
      exact o' g5 M5 H5 y w v w5 c M' Q S5 (r2.mono (e4.trans e5).toLeV) r5 e6 (f6.le e5)
    | false =>
      rw [if_neg Bool.false_ne_true]
      exact h3 g3 H3 _ (e2.trans e4) S3 rfl
  · exact h3.elim
end
end ZM
end
section
/-! ZM, part K: lists of arguments, displays, slices, calls. -/
namespace ZM
open PySem L2 PyProof.Rows
section
variable {K : PySem.W.Frag} {T : Tab} {X : Cx} {W : XK} {σ : St} {H : Hp}
theorem TL.go {z : ZL} {k : Sl → List Z → Mem → Res Z} {Q : List V → Hp → Prop} {Q' : VK} (h : TZ K T W (fun η M => (z η M).bind (k η)) σ H Q')
    (c : ∀ (g1 : Gh) (M1 : Mem) (η : Sl) (H1 : Hp) (a : List Z) (v : List V), Sim K T g1 M1 H1 → Slots K T g1 η σ → RelZs K T g1 a v → (k η a M1).To (Fin K T g1 Q') (Out K T W g1) → Q v H1) : TL K T W z σ H Q := by
  obtain ⟨g, M, η, S, L, h⟩ := h
  refine ⟨g, M, η, S, L, h.bind.imp (fun a M1 h1 g1 H1 v e1 S1 r1 => ?_) fun _ _ _ q => q⟩
  exact c g1 M1 η H1 a v S1 (L.mono e1.toLeV) r1 (To.le h1 e1)
theorem z_nil {Q : List V → Hp → Prop} (h : TL K T W (fun _ M => .ok [] M) σ H Q) : tNil σ H Q := by
  obtain ⟨g, M, η, S, L, h⟩ := h
  exact h g H [] (Le.refl g) S rfl
theorem z_cons {z : ZE} {r : ZL} {Q : List V → Hp → Prop} (h : TL K T W (fun η M => (z η M).bind fun x M1 => (r η M1).bind fun xs M2 => .ok (x :: xs) M2) σ H Q) : tCons (TZ K T W z) (TL K T W r) σ H Q := by
  obtain ⟨g, M, η, S, L, h⟩ := h
  refine ⟨g, M, η, S, L, h.bind.imp (fun x M1 h1 g1 H1 v e1 S1 r1 => ?_) fun _ _ _ q => q⟩
  refine ⟨g1, M1, η, S1, L.mono e1.toLeV, (ToA.le h1 e1).bind.imp (fun xs M2 h2 g2 H2 vs e2 S2 r2 => ?_) fun _ _ _ q => q⟩
  exact h2 g2 H2 (v :: vs) e2 S2 ⟨v, vs, rfl, r1.mono e2.toLeV, r2⟩
theorem z_tup {z : ZL} {Q : VK} (h : TZ K T W (fun η M => (z η M).bind fun zs M1 => if zs.length ≤ sizeLine then .ok (.tup zs) M1 else .stuck) σ H Q) : tTup (TL K T W z) σ H Q := by
  refine TL.go (k := fun _ zs M1 => if zs.length ≤ sizeLine then .ok (.tup zs) M1 else .stuck) h fun g1 M1 η H1 a v S L r q => ?_
  split at q
  · rename_i hl
    exact ⟨by rw [r.length]; exact hl, fun p hp => newT_ok S r q hp⟩
  · exact q.elim
theorem z_lst {m : Bool} {z : ZL} {Q : VK} (h : TZ K T W (fun η M => (z η M).bind fun zs M1 => if zs.length ≤ sizeLine then ofO (some (newL m zs M1)) else .stuck) σ H Q) : tLst (TL K T W z) σ H Q := by
  refine TL.go (k := fun _ zs M1 => if zs.length ≤ sizeLine then ofO (some (newL m zs M1)) else .stuck) h fun g1 M1 η H1 a v S L r q => ?_
  split at q
  · rename_i hl
    exact ⟨by rw [r.length]; exact hl, fun p hp => newL_ok S r q hp⟩
  · exact q.elim
theorem z_dic0 {Q : VK} (h : TZ K T W (zC .dic0) σ H Q) : tDNewK σ H Q := by
  obtain ⟨g, M, η, S, L, h⟩ := h
  intro p hp
  exact h _ _ _ (Le.frz (S.noF hp)) (S.newF hp) ⟨p, rfl, Gh.frz_at⟩
/-! ### slices -/
theorem s_sl {m : Bool} {g : Gh} {M M' : Mem} {x a : Z} {v : V} {lo hi : Option Int} {Q : VK} (S : Sim K T g M H) (r : RelZ K T g x v) (e : sSl m x lo hi M = some (a, M')) (f : Fin K T g Q a M') : rSlL K v lo hi H Q := by
  unfold sSl at e
  split at e
  · rename_i l el
    obtain ⟨rfl, rfl⟩ := newL_eq e
    obtain ⟨p, vs, rfl, hp, rs⟩ := itsL_ok S r el
    exact ⟨p, vs, rfl, hp, fun b hb => newL_ok S (cut_rel rs lo hi) f hb⟩
  · cases e
theorem z_slD {m : Bool} {za : ZE} {Q : VK} (h : TZ K T W (fun η M => (za η M).bind fun x M1 => ofO (sSl m x none none M1)) σ H Q) : tSl (rSlL K) (TZ K T W za) tNoPart tNoPart σ H Q := by
  refine TZ.go (k := fun _ x M1 => ofO (sSl m x none none M1)) h fun g1 M1 η H1 x v S L r q => ?_
  obtain ⟨a, M', e, f⟩ := To.ofO q
  exact s_sl S r e f
theorem z_slA {m : Bool} {za zl : ZE} {Q : VK} (h : TZ K T W (fun η M => (za η M).bind fun x M1 => (zl η M1).bind fun l M2 => match l with
    | .int i => ofO (sSl m x (some i) none M2)
    | _ => .stuck) σ H Q) : tSl (rSlL K) (TZ K T W za) (tPart (TZ K T W zl)) tNoPart σ H Q := by
  refine TZ.go (k := fun η x M1 => (zl η M1).bind fun l M2 => match l with
    | .int i => ofO (sSl m x (some i) none M2)
    | _ => .stuck) h fun g1 M1 η H1 x v S L r q => ?_
  refine ⟨g1, M1, η, S, L, q.bind.imp (fun l M2 h2 g2 H2 w e2 S2 r2 => ?_) fun _ _ _ q => q⟩
  split at h2
  · cases r2
    obtain ⟨a, M', e, f⟩ := To.ofO h2
    exact ⟨_, rfl, s_sl S2 (r.mono e2.toLeV) e (f.le e2)⟩
  · exact h2.elim
theorem z_slB {m : Bool} {za zh : ZE} {Q : VK} (h : TZ K T W (fun η M => (za η M).bind fun x M1 => (zh η M1).bind fun l M2 => match l with
    | .int i => ofO (sSl m x none (some i) M2)
    | _ => .stuck) σ H Q) : tSl (rSlL K) (TZ K T W za) tNoPart (tPart (TZ K T W zh)) σ H Q := by
  refine TZ.go (k := fun η x M1 => (zh η M1).bind fun l M2 => match l with
    | .int i => ofO (sSl m x none (some i) M2)
    | _ => .stuck) h fun g1 M1 η H1 x v S L r q => ?_
  refine ⟨g1, M1, η, S, L, q.bind.imp (fun l M2 h2 g2 H2 w e2 S2 r2 => ?_) fun _ _ _ q => q⟩
  split at h2
  · cases r2
    obtain ⟨a, M', e, f⟩ := To.ofO h2
    exact ⟨_, rfl, s_sl S2 (r.mono e2.toLeV) e (f.le e2)⟩
  · exact h2.elim
theorem z_slC {m : Bool} {za zl zh : ZE} {Q : VK} (h : TZ K T W (fun η M => (za η M).bind fun x M1 => (zl η M1).bind fun l M2 => match l with
    | .int i => (zh η M2).bind fun h M3 => match h with
      | .int j => ofO (sSl m x (some i) (some j) M3)
      | _ => .stuck
    | _ => .stuck) σ H Q) : tSl (rSlL K) (TZ K T W za) (tPart (TZ K T W zl)) (tPart (TZ K T W zh)) σ H Q := by
  refine TZ.go (k := fun η x M1 => (zl η M1).bind fun l M2 => match l with
    | .int i => (zh η M2).bind fun h M3 => match h with
      | .int j => ofO (sSl m x (some i) (some j) M3)
      | _ => .stuck
    | _ => .stuck) h fun g1 M1 η H1 x v S L r q => ?_
  refine ⟨g1, M1, η, S, L, q.bind.imp (fun l M2 h2 g2 H2 w e2 S2 r2 => ?_) fun _ _ _ q => q⟩
  split at h2
  · cases r2
    refine ⟨_, rfl, g2, M2, η, S2, L.mono e2.toLeV, (To.le h2 e2).bind.imp (fun k M3 h3 g3 H3 u e3 S3 r3 => ?_) fun _ _ _ q => q⟩
    split at h3
    · cases r3
      obtain ⟨a, M', e, f⟩ := To.ofO h3
      exact ⟨_, rfl, s_sl S3 (r.mono (e2.trans e3).toLeV) e (f.le e3)⟩
    · exact h3.elim
  · exact h2.elim
/-! ### built-in functions, methods -/
theorem z_bi {b : Bi} {z : ZL} {Q : VK} (h : TZ K T W (fun η M => (z η M).bind fun zs M1 => ofO (biSem b zs M1)) σ H Q) : tCB (RBi K b) (TL K T W z) σ H Q := by
  refine TL.go (k := fun _ zs M1 => ofO (biSem b zs M1)) h fun g1 M1 η H1 a v S L r q => ?_
  obtain ⟨c, M', e, f⟩ := To.ofO q
  exact s_bi b g1 M1 H1 a v c M' Q S r e f
def MeT : Me → String
  | .append => "list"
  | .pop => "list"
  | .popAt => "list"
  | .bits => "int"
theorem rcv_list {b : Me} {g : Gh} {M : Mem} {x : Z} {v : V} (hb : b ≠ .bits) (S : Sim K T g M H) (r : RelZ K T g x v) (h : rcv b x M = true) : ∃ n a vs, x = .ref n ∧ v = .ref a ∧ g.ad[n]? = some a ∧ H a = some (.lst vs) := by
  cases x with
  | ref n =>
    obtain ⟨p, rfl, hp⟩ := r
    have e : ∃ l, M[n]? = some (.lst l) := by
      cases b <;> simp only [rcv] at h <;> first | exact absurd rfl hb | skip
      all_goals
        split at h
        · exact ⟨_, by assumption⟩
        · cases h
    obtain ⟨l, el⟩ := e
    obtain ⟨b, vs, q1, _, q3, q4⟩ := S.get el
    rw [hp] at q1
    cases q1
    exact ⟨n, p, vs, rfl, rfl, hp, q3⟩
  | _ => cases b <;> first | exact absurd rfl hb | cases h
theorem z_bits {zo : ZE} {zl : ZL} (hl : ∀ η M, zl η M = .ok [] M) {Q : VK} (h : TZ K T W (fun η M => (zo η M).bind fun x M1 => if rcv .bits x M1 = true then (zl η M1).bind fun zs M2 => ofO (meSem .bits x zs M2) else .stuck) σ H Q) : tBits (TZ K T W zo) σ H Q := by
  refine TZ.go (k := fun η x M1 => if rcv .bits x M1 = true then (zl η M1).bind fun zs M2 => ofO (meSem .bits x zs M2) else .stuck) h fun g1 M1 η H1 x v S L r q => ?_
  split at q
  · rw [hl] at q
    obtain ⟨a, M', e, f⟩ := To.ofO (show (ofO (meSem .bits x [] M1)).To _ _ from q)
    cases x <;> simp only [meSem] at e <;> try cases e
    cases r
    exact ⟨_, rfl, fin_at S f rfl⟩
  · exact q.elim
theorem z_pop {zo : ZE} {zl : ZL} (hl : ∀ η M, zl η M = .ok [] M) {Q : VK} (h : TZ K T W (fun η M => (zo η M).bind fun x M1 => if rcv .pop x M1 = true then (zl η M1).bind fun zs M2 => ofO (meSem .pop x zs M2) else .stuck) σ H Q) : tBM0 K "list" rPop (TZ K T W zo) σ H Q := by
  refine TZ.go (k := fun η x M1 => if rcv .pop x M1 = true then (zl η M1).bind fun zs M2 => ofO (meSem .pop x zs M2) else .stuck) h fun g1 M1 η H1 x v S L r q => ?_
  split at q
  · rename_i hr
    rw [hl] at q
    obtain ⟨a, M', e, f⟩ := To.ofO (show (ofO (meSem .pop x [] M1)).To _ _ from q)
    obtain ⟨n, p, ws, rfl, rfl, hp, _⟩ := rcv_list (by intro z; cases z) S r hr
    simp only [meSem, sPop] at e
    split at e
    · rename_i l el
      split at e
      · rename_i y ey
        cases e
        obtain ⟨b, vs, q1, _, q3, q4⟩ := S.get el
        rw [hp] at q1
        cases q1
        obtain ⟨w, w1, w2⟩ := q4.get ey
        refine ⟨.inl ⟨rfl, vs, sqL_of q3⟩, p, vs, w, rfl, rfl, q3, by rw [q4.length]; exact w1, ?_⟩
        have rd : RelZs K T g1 l.dropLast vs.dropLast := by
          rw [List.dropLast_eq_take, List.dropLast_eq_take, q4.length]
          exact q4.take _
        exact f g1 _ w (Le.refl _) (S.put el hp rd) w2
      · cases e
    · cases e
  · exact q.elim
theorem RelZs.erase {g : Gh} : ∀ {l : List Z} {vs : List V} (i : Nat), RelZs K T g l vs → RelZs K T g (l.eraseIdx i) (vs.eraseIdx i)
  | [], _, _, h => by cases h; rfl
  | _ :: _, _, 0, ⟨v, ws, h1, _, h3⟩ => by subst h1; exact h3
  | _ :: _, _, i + 1, ⟨v, ws, h1, h2, h3⟩ => by subst h1; exact ⟨v, _, rfl, h2, RelZs.erase i h3⟩
theorem z_append {zo : ZE} {zl : ZL} {Q : VK} (h : TZ K T W (fun η M => (zo η M).bind fun x M1 => if rcv .append x M1 = true then (zl η M1).bind fun zs M2 => ofO (meSem .append x zs M2) else .stuck) σ H Q) : tBM K "list" rAppend (TZ K T W zo) (TL K T W zl) σ H Q := by
  refine TZ.go (k := fun η x M1 => if rcv .append x M1 = true then (zl η M1).bind fun zs M2 => ofO (meSem .append x zs M2) else .stuck) h fun g1 M1 η H1 x v S L r q => ?_
  split at q
  · rename_i hr
    obtain ⟨n, p, ws, rfl, rfl, hp, hq⟩ := rcv_list (by intro z; cases z) S r hr
    refine ⟨.inl ⟨rfl, ws, sqL_of hq⟩, g1, M1, η, S, L, q.bind.imp (fun zs M2 h2 g2 H2 us e2 S2 r2 => ?_) fun _ _ _ q => q⟩
    obtain ⟨a, M', e, f⟩ := To.ofO h2
    simp only [meSem, sAppend] at e
    split at e
    · rename_i y
      split at e
      · rename_i l el
        split at e
        · rename_i hl
          cases e
          obtain ⟨u, rfl, ru⟩ := rel1 r2
          obtain ⟨b, vs, q1, _, q3, q4⟩ := S2.get el
          have hp2 := e2.ad _ _ hp
          rw [hp2] at q1
          cases q1
          refine ⟨p, vs, u, rfl, rfl, q3, by rw [q4.length]; exact hl, ?_⟩
          exact f _ _ _ e2 (S2.put el hp2 (q4.append ⟨u, [], rfl, ru, rfl⟩)) rfl
        · cases e
      · cases e
    · cases e
  · exact q.elim
theorem z_popAt {zo : ZE} {zl : ZL} {Q : VK} (h : TZ K T W (fun η M => (zo η M).bind fun x M1 => if rcv .popAt x M1 = true then (zl η M1).bind fun zs M2 => ofO (meSem .popAt x zs M2) else .stuck) σ H Q) : tBM K "list" rPopAt (TZ K T W zo) (TL K T W zl) σ H Q := by
  refine TZ.go (k := fun η x M1 => if rcv .popAt x M1 = true then (zl η M1).bind fun zs M2 => ofO (meSem .popAt x zs M2) else .stuck) h fun g1 M1 η H1 x v S L r q => ?_
  split at q
  · rename_i hr
    obtain ⟨n, p, ws, rfl, rfl, hp, hq⟩ := rcv_list (by intro z; cases z) S r hr
    refine ⟨.inl ⟨rfl, ws, sqL_of hq⟩, g1, M1, η, S, L, q.bind.imp (fun zs M2 h2 g2 H2 us e2 S2 r2 => ?_) fun _ _ _ q => q⟩
    obtain ⟨a, M', e, f⟩ := To.ofO h2
    simp only [meSem, sPopAt] at e
    split at e
    · rename_i i
      split at e
      · rename_i l el
        split at e
        · rename_i hc
          simp only [Bool.and_eq_true, decide_eq_true_eq] at hc
          split at e
          · rename_i k hk
            split at e
            · rename_i y hy
              cases e
              obtain ⟨u, rfl, ru⟩ := rel1 r2
              cases ru
              obtain ⟨b, vs, q1, _, q3, q4⟩ := S2.get el
              have hp2 := e2.ad _ _ hp
              rw [hp2] at q1
              cases q1
              obtain ⟨w, w1, w2⟩ := q4.get hy
              refine ⟨p, vs, i, k, w, rfl, rfl, q3, hc.1, hc.2, by rw [q4.length]; exact hk, w1, ?_⟩
              exact f _ _ w e2 (S2.put el hp2 (q4.erase k)) w2
            · cases e
          · cases e
        · cases e
      · cases e
    · cases e
  · exact q.elim
end
end ZM
end
section
/-! ZM, part L: targets, what is walked, comprehensions. -/
namespace ZM
open PySem L2 PyProof.Rows

/-! ### targets -/
theorem PG.imp {X : Cx} {e : Expr} {t t' : TG} (h : PG X e t) (i : ∀ v σ H Q, t' v σ H Q → t v σ H Q) : PG X e t' := ⟨fun pins s σ H v u Q I r q => h.run pins s σ H v u Q I r (i v σ H Q q)⟩
theorem PGs.imp {X : Cx} {es : List Expr} {t t' : TGs} (h : PGs X es t) (i : ∀ v σ H Q, t' v σ H Q → t v σ H Q) : PGs X es t' := ⟨fun pins s σ H v u Q I r q => h.run pins s σ H v u Q I r (i v σ H Q q)⟩
/-- alike but at some slots -/
structure But (o : List Nat) (σ σ' : St) : Prop where
  len : σ'.length = σ.length
  at_ : ∀ i, i ∉ o → σ'[i]? = σ[i]?
theorem But.refl (o : List Nat) (σ : St) : But o σ σ := ⟨rfl, fun _ _ => rfl⟩
theorem But.trans {o : List Nat} {σ σ1 σ2 : St} (a : But o σ σ1) (b : But o σ1 σ2) : But o σ σ2 := ⟨b.len.trans a.len, fun i h => (b.at_ i h).trans (a.at_ i h)⟩
theorem But.mono {o o' : List Nat} {σ σ' : St} (a : But o σ σ') (h : ∀ i ∈ o, i ∈ o') : But o' σ σ' := ⟨a.len, fun i hi => a.at_ i fun z => hi (h i z)⟩
section
variable {K : PySem.W.Frag} {T : Tab} {X : Cx} {W : XK}
theorem Slots.set {g : Gh} {η : Sl} {σ : St} {i : Nat} {z : Z} {v : V} (L : Slots K T g η σ) (r : RelZ K T g z v) : Slots K T g (η.set i (some z)) (σ.set i (some v)) := by
  refine ⟨by rw [List.length_set, List.length_set]; exact L.len, fun j w h => ?_⟩
  by_cases hj : i = j
  · subst hj
    by_cases hi : i < η.length
    · rw [List.getElem?_set_self hi] at h
      cases h
      exact ⟨v, List.getElem?_set_self (by rw [← L.len]; exact hi), r⟩
    · rw [List.getElem?_eq_none (by rw [List.length_set]; omega)] at h
      cases h
  · rw [List.getElem?_set_ne hj] at h ⊢
    exact L.at_ j w h
/-- a target's reading -/
def TGt (K : PySem.W.Frag) (T : Tab) (tg : Tg) : TG := fun v σ H Q => ∃ (z : Z) (g : Gh) (M : Mem) (η η' : Sl), Sim K T g M H ∧ Slots K T g η σ ∧ RelZ K T g z v ∧ asg tg z η = some η' ∧ ∀ σ', Slots K T g η' σ' → But tg.own σ σ' → Q σ' H
def TGs' (K : PySem.W.Frag) (T : Tab) (ts : List Tg) : TGs := fun vs σ H Q => ∃ (zs : List Z) (g : Gh) (M : Mem) (η η' : Sl), Sim K T g M H ∧ Slots K T g η σ ∧ RelZs K T g zs vs ∧ asgs ts zs η = some η' ∧ ∀ σ', Slots K T g η' σ' → But (Tg.owns ts) σ σ' → Q σ' H
theorem asgs_len : ∀ {ts : List Tg} {zs : List Z} {η η' : Sl}, asgs ts zs η = some η' → zs.length = ts.length
  | [], [], _, _, _ => rfl
  | [], _ :: _, _, _, h => by simp [asgs] at h
  | _ :: _, [], _, _, h => by simp [asgs] at h
  | t :: ts, z :: zs, η, η', h => by
    unfold asgs at h
    split at h
    · rw [List.length_cons, List.length_cons, asgs_len h]
    · cases h
theorem z_name {i : Nat} {v : V} {σ : St} {H : Hp} {Q : St → Hp → Prop} (h : TGt K T (.name i) v σ H Q) : gName i v σ H Q := by
  obtain ⟨z, g, M, η, η', S, L, r, e, q⟩ := h
  unfold asg at e
  split at e
  · cases e
    refine q _ (L.set r) ⟨by rw [List.length_set], fun j hj => ?_⟩
    have ne : i ≠ j := fun z => hj (by rw [z]; unfold Tg.own; simp)
    rw [List.getElem?_set_ne ne]
  · cases e
theorem z_tupT {ts : List Tg} {v : V} {σ : St} {H : Hp} {Q : St → Hp → Prop} (h : TGt K T (.tup ts) v σ H Q) : gTup K ts.length (TGs' K T ts) v σ H Q := by
  obtain ⟨z, g, M, η, η', S, L, r, e, q⟩ := h
  unfold asg at e
  split at e
  · rename_i l
    obtain ⟨a, vs, rfl, ha, rs⟩ := r
    refine ⟨a, vs, rfl, sqT_of S ha, by rw [rs.length]; exact asgs_len e, l, g, M, η, η', S, L, rs, e, fun σ' L' b => q σ' L' ?_⟩
    unfold Tg.own
    exact b
  · cases e
theorem z_nilT {vs : List V} {σ : St} {H : Hp} {Q : St → Hp → Prop} (h : TGs' K T [] vs σ H Q) : gNil vs σ H Q := by
  obtain ⟨zs, g, M, η, η', S, L, rs, e, q⟩ := h
  cases zs with
  | nil =>
    cases rs
    simp only [asgs] at e
    cases e
    exact ⟨rfl, q σ L (.refl _ _)⟩
  | cons _ _ => simp [asgs] at e
theorem z_consT {t : Tg} {ts : List Tg} {vs : List V} {σ : St} {H : Hp} {Q : St → Hp → Prop} (h : TGs' K T (t :: ts) vs σ H Q) : gCons (TGt K T t) (TGs' K T ts) vs σ H Q := by
  obtain ⟨zs, g, M, η, η', S, L, rs, e, q⟩ := h
  cases zs with
  | nil => simp [asgs] at e
  | cons z zs =>
    obtain ⟨v, ws, rfl, r1, r2⟩ := rs
    unfold asgs at e
    split at e
    · rename_i η1 e1
      refine ⟨v, ws, rfl, z, g, M, η, η1, S, L, r1, e1, fun σ1 L1 b1 => ?_⟩
      refine ⟨zs, g, M, η1, η', S, L1, r2, e, fun σ2 L2 b2 => ?_⟩
      refine q σ2 L2 ((b1.mono fun i hi => ?_).trans (b2.mono fun i hi => ?_))
      · unfold Tg.owns
        exact List.mem_append_left _ hi
      · unfold Tg.owns
        exact List.mem_append_right _ hi
    · cases e
theorem sto_of {sc : Scope} {fn : Str → Bool} {x : Str} (es : X.env.scope = sc) (hf : ∀ x, fn x = true → X.fn x = true) (h : stoB sc fn x = true) : Loc X.env.scope x ∧ (X.fn x = true ∨ X.env.scope.names.lookup x = some .local) := by
  rw [es]
  unfold stoB at h
  split at h
  · exact ⟨.inl (by assumption), .inr (by assumption)⟩
  · exact ⟨.inr (by assumption), .inl (hf x h)⟩
  · cases h
theorem each_star {env : Env} {e : Expr} {es : List Expr} (h : notStar e = true) : assignEach (e :: es) env = (false, assign e env) :: assignEach es env := by
  cases e <;> first | rfl | cases h
theorem each_all {env : Env} : ∀ {es : List Expr}, es.all notStar = true → (assignEach es env).length = es.length ∧ (assignEach es env).findIdx? (·.1) = none
  | [], _ => ⟨rfl, rfl⟩
  | e :: es, h => by
    rw [List.all_cons, Bool.and_eq_true] at h
    obtain ⟨h1, h2⟩ := each_all (env := env) h.2
    rw [each_star h.1]
    refine ⟨by rw [List.length_cons, List.length_cons, h1], ?_⟩
    rw [List.findIdx?_cons, h2]
    rfl
theorem okTgs_len {N : List Str} {sc : Scope} {fn : Str → Bool} : ∀ {ts : List Tg} {es : List Expr}, okTgs N sc fn ts es = true → es.length = ts.length ∧ es.all notStar = true
  | [], [], _ => ⟨rfl, rfl⟩
  | [], _ :: _, h => by simp [okTgs] at h
  | _ :: _, [], h => by simp [okTgs] at h
  | t :: ts, e :: es, h => by
    unfold okTgs at h
    simp only [Bool.and_eq_true] at h
    obtain ⟨h1, h2⟩ := okTgs_len h.2
    exact ⟨by rw [List.length_cons, List.length_cons, h1], by rw [List.all_cons, h.1.1, h2]; rfl⟩
end
section
variable {Φ : Fix} {C : Calls} {d : Nat} {N : List Str} {X : Cx} {sc : Scope} {fn : Str → Bool} {W : XK}
mutual
theorem sTg (a : At Φ C d N X sc fn W) : ∀ (tg : Tg) (e : Expr), okTg N sc fn tg e = true → PG X e (TGt Φ.K Φ.T tg)
  | .name i, e, h => by
    unfold okTg at h
    split at h
    · rename_i j x p ht
      cases ht
      simp only [Bool.and_eq_true, decide_eq_true_eq] at h
      obtain ⟨h1, h2⟩ := sto_of a.es a.fn h.2
      exact PG.imp (pg_name (by rw [a.eN]; exact a.nd) (by rw [a.eN]; exact h.1) h1 h2) fun _ _ _ _ q => z_name q
    · rename_i ts es k p ht
      cases ht
    · cases h
  | .tup ts, e, h => by
    unfold okTg at h
    split at h
    · rename_i j x p ht
      cases ht
    · rename_i ts' es k p ht
      cases ht
      obtain ⟨h1, h2⟩ := okTgs_len h
      obtain ⟨h3, h4⟩ := each_all (env := X.env) h2
      refine PG.imp (pg_tup (n := ts.length) a.calm (sTgs a ts es h) (by rw [h3]; exact h1) h4) fun _ _ _ _ q => ?_
      rw [a.eK]
      exact z_tupT q
    · cases h
theorem sTgs (a : At Φ C d N X sc fn W) : ∀ (ts : List Tg) (es : List Expr), okTgs N sc fn ts es = true → PGs X es (TGs' Φ.K Φ.T ts)
  | [], [], _ => PGs.imp pgs_nil fun _ _ _ _ q => z_nilT q
  | [], _ :: _, h => by simp [okTgs] at h
  | _ :: _, [], h => by simp [okTgs] at h
  | t :: ts, e :: es, h => by
    unfold okTgs at h
    simp only [Bool.and_eq_true] at h
    exact PGs.imp (pgs_cons (sTg a t e h.1.2) (sTgs a ts es h.2) (by rw [each_star h.1.1]; rfl)) fun _ _ _ _ q => z_consT q
end
end

/-! ### what is walked -/
/-- J walks the items l, from the ghost g₀ on -/
def Walks (K : PySem.W.Frag) (T : Tab) (g₀ : Gh) (J : L2.It) (l : List Z) : Prop := ∀ (g : Gh) (M : Mem) (H : Hp) (i : Nat), LeV g₀ g → Sim K T g M H →
  (∀ z, l[i]? = some z → J.go i H ∧ ∀ x H', J.yld i H x H' → ∃ g', Le g g' ∧ Sim K T g' M H' ∧ RelZ K T g' z x) ∧ (l.length ≤ i → J.stop i H)
section
variable {K : PySem.W.Frag} {T : Tab} {g₀ : Gh} {X : Cx} {W : XK}
/-- a frozen list stands still -/
def FrzAt (K : PySem.W.Frag) (g : Gh) (a : Addr) (vs : List V) : Prop := g.F a = some (.lst vs) ∨ (∃ o, g.F a = some (.frz o (.lst vs))) ∨ KLst K a vs
theorem FrzAt.sq {g g' : Gh} {M : Mem} {H : Hp} {a : Addr} {vs : List V} (h : FrzAt K g a vs) (e : LeV g g') (S : Sim K T g' M H) : SqL K H a vs := by
  rcases h with h | ⟨o, h⟩ | h
  · exact .inl (.inl (S.fr _ _ (e.F _ _ h)))
  · exact .inl (.inr ⟨o, S.fr _ _ (e.F _ _ h)⟩)
  · exact .inr h
theorem frzL_ok {g : Gh} {z : Z} {v : V} {l : List Z} (r : RelZ K T g z v) (h : frzL z = some l) : ∃ a vs, v = .ref a ∧ FrzAt K g a vs ∧ RelZs K T g l vs := by
  cases z <;> simp only [frzL] at h <;> try cases h
  · obtain ⟨a, vs, rfl, ha, rs⟩ := r
    exact ⟨a, vs, rfl, .inl ha, rs⟩
  · obtain ⟨a, rfl, ha⟩ := r
    exact ⟨a, _, rfl, ha, relInts _⟩
theorem walks_list {a : Addr} {vs : List V} {l : List Z} (h : FrzAt K g₀ a vs) (rs : RelZs K T g₀ l vs) : Walks K T g₀ (Itl K a) l := by
  intro g M H i e S
  have sq := h.sq e S
  refine ⟨fun z hz => ?_, fun hi => ⟨vs, sq, by rw [rs.length]; exact hi⟩⟩
  obtain ⟨v, h1, h2⟩ := rs.get hz
  refine ⟨⟨vs, v, sq, h1⟩, fun x H' y => ?_⟩
  obtain ⟨e', y⟩ := y
  subst e'
  have q := y vs sq
  rw [h1] at q
  cases q
  exact ⟨g, .refl g, S, h2.mono e⟩
theorem walks_tup {a : Addr} {vs : List V} {l : List Z} (h : g₀.F a = some (.tup vs) ∨ KTup K a vs) (rs : RelZs K T g₀ l vs) : Walks K T g₀ (Itt K a) l := by
  intro g M H i e S
  have sq : SqT K H a vs := sqT_of S (h.imp (e.F _ _) id)
  refine ⟨fun z hz => ?_, fun hi => ⟨vs, sq, by rw [rs.length]; exact hi⟩⟩
  obtain ⟨v, h1, h2⟩ := rs.get hz
  refine ⟨⟨vs, v, sq, h1⟩, fun x H' y => ?_⟩
  obtain ⟨e', y⟩ := y
  subst e'
  have q := y vs sq
  rw [h1] at q
  cases q
  exact ⟨g, .refl g, S, h2.mono e⟩
theorem rangeZ_len : ∀ (n : Nat) (lo : Int), (rangeZ lo n).length = n
  | 0, _ => rfl
  | n + 1, lo => by rw [rangeZ, List.length_cons, rangeZ_len n]
theorem rangeZ_get : ∀ (n : Nat) (lo : Int) (i : Nat), i < n → (rangeZ lo n)[i]? = some (.int (lo + i))
  | 0, _, _, h => absurd h (Nat.not_lt_zero _)
  | n + 1, lo, 0, _ => by simp [rangeZ]
  | n + 1, lo, i + 1, h => by
    rw [rangeZ, List.getElem?_cons_succ, rangeZ_get n (lo + 1) i (by omega)]
    congr 2
    omega
theorem walks_range (lo : Int) (n : Nat) : Walks K T g₀ (Itr lo n) (rangeZ lo n) := by
  intro g M H i e S
  refine ⟨fun z hz => ?_, fun hi => by rw [rangeZ_len] at hi; exact hi⟩
  have hi : i < n := by
    have q := (List.getElem?_eq_some_iff.mp hz).1
    rw [rangeZ_len] at q
    exact q
  rw [rangeZ_get n lo i hi] at hz
  cases hz
  refine ⟨hi, fun x H' y => ?_⟩
  obtain ⟨e', e2⟩ := y
  subst e' e2
  exact ⟨g, .refl g, S, rfl⟩
theorem enumZ_len : ∀ (l : List Z) (k : Int), (enumZ k l).length = l.length
  | [], _ => rfl
  | z :: r, k => by rw [enumZ, List.length_cons, List.length_cons, enumZ_len r]
theorem enumZ_get : ∀ (l : List Z) (k : Int) (i : Nat), (enumZ k l)[i]? = (l[i]?).map fun z => .tup [.int (k + i), z]
  | [], _, _ => rfl
  | z :: r, k, 0 => by simp [enumZ]
  | z :: r, k, i + 1 => by
    rw [enumZ, List.getElem?_cons_succ, List.getElem?_cons_succ, enumZ_get r (k + 1) i]
    congr 1
    funext w
    congr 3
    omega
theorem walks_enum {a : Addr} {vs : List V} {l : List Z} (h : FrzAt K g₀ a vs) (rs : RelZs K T g₀ l vs) : Walks K T g₀ (Ite K a) (enumZ 0 l) := by
  intro g M H i e S
  have sq := h.sq e S
  refine ⟨fun z hz => ?_, fun hi => ⟨vs, sq, by rw [enumZ_len] at hi; rw [rs.length]; exact hi⟩⟩
  rw [enumZ_get] at hz
  obtain ⟨w, hw, rfl⟩ := Option.map_eq_some_iff.mp hz
  obtain ⟨v, h1, h2⟩ := rs.get hw
  refine ⟨⟨vs, v, sq, h1⟩, fun x H' y => ?_⟩
  obtain ⟨p, u, rfl, hp, rfl, y⟩ := y
  have q := y vs sq
  rw [h1] at q
  cases q
  have e2 := Le.frz (g := g) (o := .tup [.int (i : Nat), v]) (S.noF hp)
  refine ⟨_, e2, S.newF hp, p, _, rfl, .inl Gh.frz_at, _, _, rfl, ?_, v, [], rfl, (h2.mono e).mono e2.toLeV, rfl⟩
  show V.int _ = .int _
  rw [Int.zero_add]
theorem zipZ_len : ∀ (l m : List Z), l.length = m.length → (zipZ l m).length = l.length
  | [], [], _ => rfl
  | [], _ :: _, h => by simp at h
  | _ :: _, [], h => by simp at h
  | x :: l, y :: m, h => by
    rw [zipZ, List.length_cons, List.length_cons, zipZ_len l m (by simpa using h)]
theorem zipZ_get : ∀ (l m : List Z) (i : Nat) (z : Z), (zipZ l m)[i]? = some z → ∃ x y, l[i]? = some x ∧ m[i]? = some y ∧ z = .tup [x, y]
  | [], _, _, _, h => by simp [zipZ] at h
  | _ :: _, [], _, _, h => by simp [zipZ] at h
  | x :: l, y :: m, 0, z, h => by
    simp [zipZ] at h
    exact ⟨x, y, rfl, rfl, h.symm⟩
  | x :: l, y :: m, i + 1, z, h => by
    rw [zipZ, List.getElem?_cons_succ] at h
    obtain ⟨u, v, h1, h2, h3⟩ := zipZ_get l m i z h
    exact ⟨u, v, by simpa using h1, by simpa using h2, h3⟩
theorem walks_zip {a b : Addr} {vs ws : List V} {l m : List Z} (h : FrzAt K g₀ a vs) (h' : FrzAt K g₀ b ws) (rs : RelZs K T g₀ l vs) (rs' : RelZs K T g₀ m ws) (hl : l.length = m.length) : Walks K T g₀ (Itz K a b) (zipZ l m) := by
  intro g M H i e S
  have sq := h.sq e S
  have sq' := h'.sq e S
  refine ⟨fun z hz => ?_, fun hi => ⟨vs, ws, sq, sq', .inl (by rw [zipZ_len l m hl] at hi; rw [rs.length]; exact hi)⟩⟩
  obtain ⟨x, y, hx, hy, rfl⟩ := zipZ_get l m i z hz
  obtain ⟨v, h1, h2⟩ := rs.get hx
  obtain ⟨w, k1, k2⟩ := rs'.get hy
  refine ⟨⟨vs, ws, v, w, sq, sq', h1, k1⟩, fun u H' q => ?_⟩
  obtain ⟨p, v', w', rfl, hp, rfl, q1, q2⟩ := q
  have z1 := q1 vs sq
  have z2 := q2 ws sq'
  rw [h1] at z1
  rw [k1] at z2
  cases z1
  cases z2
  have e2 := Le.frz (g := g) (o := .tup [v, w]) (S.noF hp)
  exact ⟨_, e2, S.newF hp, p, _, rfl, .inl Gh.frz_at, _, _, rfl, (h2.mono e).mono e2.toLeV, w, [], rfl, (k2.mono e).mono e2.toLeV, rfl⟩
/-- what is walked, as a reading -/
def TIz (K : PySem.W.Frag) (T : Tab) (W : XK) (it : It) (z : ZL) : TI := fun σ H R => ∃ (g : Gh) (M : Mem) (η : Sl), Sim K T g M H ∧ Slots K T g η σ ∧
  (z η M).To (fun zs M1 => ∃ l, itemsZ it zs = some l ∧ ∀ (g1 : Gh) (H1 : Hp) (J : L2.It), Le g g1 → Sim K T g1 M1 H1 → Walks K T g1 J l → R J H1) (Out K T W g)
theorem PI.imp {tg iter : Expr} {t t' : TI} (h : PI X tg iter t) (i : ∀ σ H R, t' σ H R → t σ H R) : PI X tg iter t' := ⟨fun pins s σ H R I q => h.run pins s σ H R I (i σ H R q)⟩
theorem one_of {z : ZE} {σ : St} {H : Hp} {P : V → Hp → Prop} {D : List Z → Mem → Gh → Prop} {g : Gh} {M : Mem} {η : Sl} (S : Sim K T g M H) (L : Slots K T g η σ) (hD : True)
    (h : ((z η M).bind fun x M1 => ((fun _ M => .ok [] M : ZL) η M1).bind fun xs M2 => .ok (x :: xs) M2).To (fun zs M1 => D zs M1 g) (Out K T W g))
    (c : ∀ (x : Z) (M1 : Mem) (g1 : Gh) (H1 : Hp) (v : V), Le g g1 → Sim K T g1 M1 H1 → RelZ K T g1 x v → D [x] M1 g → P v H1) : TZ K T W z σ H P :=
  ⟨g, M, η, S, L, h.bind.imp (fun x M1 h1 g1 H1 v e1 S1 r1 => c x M1 g1 H1 v e1 S1 r1 h1) fun _ _ _ q => q⟩
theorem z_walk1 {it : It} (hit : it = .list ∨ it = .tup) {z : ZE} {zl : ZL} (hz : ∀ η M, zl η M = (z η M).bind fun x M1 => .ok [x] M1) {σ : St} {H : Hp} {R : L2.It → Hp → Prop} (h : TIz K T W it zl σ H R) :
    (it = .list → iList K (TZ K T W z) σ H R) ∧ (it = .tup → iTup K (TZ K T W z) σ H R) := by
  obtain ⟨g, M, η, S, L, h⟩ := h
  rw [hz] at h
  refine ⟨fun e => ?_, fun e => ?_⟩
  · subst e
    refine ⟨g, M, η, S, L, h.bind.imp (fun x M1 h1 g1 H1 v e1 S1 r1 => ?_) fun _ _ _ q => q⟩
    obtain ⟨l, el, k⟩ := h1
    obtain ⟨a, vs, rfl, ha, rs⟩ := frzL_ok r1 el
    exact ⟨a, rfl, ⟨vs, ha.sq (.refl _) S1⟩, k g1 H1 _ e1 S1 (walks_list ha rs)⟩
  · subst e
    refine ⟨g, M, η, S, L, h.bind.imp (fun x M1 h1 g1 H1 v e1 S1 r1 => ?_) fun _ _ _ q => q⟩
    obtain ⟨l, el, k⟩ := h1
    cases x <;> simp only [itemsZ, itTup] at el <;> try cases el
    obtain ⟨a, vs, rfl, ha, rs⟩ := r1
    exact ⟨a, rfl, ⟨vs, sqT_of S1 ha⟩, k g1 H1 _ e1 S1 (walks_tup ha rs)⟩
theorem z_range1 {zl : ZL} {σ : St} {H : Hp} {R : L2.It → Hp → Prop} (h : TIz K T W .range1 zl σ H R) : iRng1 (TL K T W zl) σ H R := by
  obtain ⟨g, M, η, S, L, h⟩ := h
  refine ⟨g, M, η, S, L, h.imp (fun zs M1 h1 g1 H1 vs e1 S1 r1 => ?_) fun _ _ _ q => q⟩
  obtain ⟨l, el, k⟩ := h1
  simp only [itemsZ, itRange1] at el
  split at el
  · rename_i j
    split at el
    · rename_i hc
      cases el
      simp only [Bool.and_eq_true, decide_eq_true_eq] at hc
      obtain ⟨v, rfl, rv⟩ := rel1 r1
      cases rv
      exact ⟨j, rfl, hc.1, hc.2, k g1 H1 _ e1 S1 (walks_range 0 _)⟩
    · cases el
  · cases el
theorem z_range2 {zl : ZL} {σ : St} {H : Hp} {R : L2.It → Hp → Prop} (h : TIz K T W .range2 zl σ H R) : iRng2 (TL K T W zl) σ H R := by
  obtain ⟨g, M, η, S, L, h⟩ := h
  refine ⟨g, M, η, S, L, h.imp (fun zs M1 h1 g1 H1 vs e1 S1 r1 => ?_) fun _ _ _ q => q⟩
  obtain ⟨l, el, k⟩ := h1
  simp only [itemsZ, itRange2] at el
  split at el
  · rename_i i j
    split at el
    · rename_i hc
      cases el
      simp only [Bool.and_eq_true, decide_eq_true_eq] at hc
      obtain ⟨u, v, rfl, ru, rv⟩ := rel2 r1
      cases ru
      cases rv
      exact ⟨i, j, rfl, ⟨hc.1.1.1, hc.1.1.2, hc.1.2, hc.2⟩, k g1 H1 _ e1 S1 (walks_range i _)⟩
    · cases el
  · cases el
theorem z_enum {zl : ZL} {σ : St} {H : Hp} {R : L2.It → Hp → Prop} (h : TIz K T W .enum zl σ H R) : iEnum K (TL K T W zl) σ H R := by
  obtain ⟨g, M, η, S, L, h⟩ := h
  refine ⟨g, M, η, S, L, h.imp (fun zs M1 h1 g1 H1 vs e1 S1 r1 => ?_) fun _ _ _ q => q⟩
  obtain ⟨l, el, k⟩ := h1
  simp only [itemsZ, itEnum] at el
  split at el
  · obtain ⟨m, em, rfl⟩ := Option.map_eq_some_iff.mp el
    obtain ⟨v, rfl, rv⟩ := rel1 r1
    obtain ⟨a, ws, rfl, ha, rs⟩ := frzL_ok rv em
    exact ⟨a, ws, rfl, ha.sq (.refl _) S1, k g1 H1 _ e1 S1 (walks_enum ha rs)⟩
  · cases el
theorem z_zip {zl : ZL} {σ : St} {H : Hp} {R : L2.It → Hp → Prop} (h : TIz K T W .zip zl σ H R) : iZip K (TL K T W zl) σ H R := by
  obtain ⟨g, M, η, S, L, h⟩ := h
  refine ⟨g, M, η, S, L, h.imp (fun zs M1 h1 g1 H1 vs e1 S1 r1 => ?_) fun _ _ _ q => q⟩
  obtain ⟨l, el, k⟩ := h1
  simp only [itemsZ, itZip] at el
  split at el
  · split at el
    · rename_i x y _ _ la lb ea eb
      split at el
      · rename_i hl
        cases el
        obtain ⟨u, v, rfl, ru, rv⟩ := rel2 r1
        obtain ⟨a, ws, rfl, ha, rs⟩ := frzL_ok ru ea
        obtain ⟨b, ws', rfl, hb, rs'⟩ := frzL_ok rv eb
        exact ⟨a, b, ws, ws', rfl, ha.sq (.refl _) S1, hb.sq (.refl _) S1, k g1 H1 _ e1 S1 (walks_zip ha hb rs rs' hl)⟩
      · cases el
    · cases el
  · cases el
end
end ZM
end
section
/-! ZM, part N: comprehensions, calls; a checked expression does what its term says. -/
namespace ZM
open PySem L2 PyProof.Rows
section
variable {K : PySem.W.Frag} {T : Tab} {X : Cx} {W : XK}
abbrev WN : XK := fun _ _ _ => False
theorem Res.assoc {α β γ : Type} (r : Res α) (f : α → Mem → Res β) (k : β → Mem → Res γ) : (r.bind f).bind k = r.bind fun a M => (f a M).bind k := by cases r <;> rfl
theorem noX_bind {α β : Type} {r : Res α} {f : α → Mem → Res β} {P : β → Mem → Prop} {E E' : Nat → Z → Mem → Prop} (h : (r.noX.bind f).To P E) : r.To (fun a M => (f a M).To P E) E' := by
  cases r with
  | ok a M => exact h
  | exc k v M => exact h.elim
  | stuck => exact h
theorem wipe_get {σ : St} : ∀ (vs : List Nat) (i : Nat), (wipe σ vs)[i]? = if i ∈ vs then (if i < σ.length then some none else none) else σ[i]?
  | [], i => by simp [wipe]
  | v :: vs, i => by
    have ih := wipe_get (σ := σ) vs i
    by_cases hv : v = i
    · subst hv
      rw [if_pos List.mem_cons_self]
      show ((wipe σ vs).set v none)[v]? = _
      by_cases hl : v < σ.length
      · rw [if_pos hl, List.getElem?_set_self (by rw [wipe_length]; exact hl)]
      · rw [if_neg hl, List.getElem?_eq_none (by rw [List.length_set, wipe_length]; omega)]
    · show ((wipe σ vs).set v none)[i]? = _
      rw [List.getElem?_set_ne hv, ih]
      by_cases hm : i ∈ vs
      · rw [if_pos hm, if_pos (List.mem_cons_of_mem _ hm)]
      · rw [if_neg hm, if_neg (fun z => (List.mem_cons.mp z).elim (fun e => hv e.symm) hm)]
theorem wipe_but {σ σ' : St} {vs : List Nat} (b : But vs (wipe σ vs) σ') : wipe σ' vs = wipe σ vs := by
  have hl : σ'.length = σ.length := by rw [b.len, wipe_length]
  refine List.ext_getElem? fun i => ?_
  rw [wipe_get, wipe_get, hl]
  by_cases hm : i ∈ vs
  · rw [if_pos hm, if_pos hm]
  · rw [if_neg hm, if_neg hm, b.at_ i hm, wipe_get, if_neg hm]
theorem wipeZ_len (η : Sl) : ∀ vs : List Nat, (wipeZ η vs).length = η.length
  | [] => rfl
  | v :: vs => by
    show ((wipeZ η vs).set v none).length = _
    rw [List.length_set, wipeZ_len η vs]
theorem Slots.wipe {g : Gh} {η : Sl} {σ : St} (L : Slots K T g η σ) : ∀ vs : List Nat, Slots K T g (wipeZ η vs) (L2.wipe σ vs)
  | [] => L
  | v :: vs => by
    have ih := Slots.wipe L vs
    refine ⟨?_, fun i z h => ?_⟩
    · show ((wipeZ η vs).set v none).length = ((L2.wipe σ vs).set v none).length
      rw [List.length_set, List.length_set]
      exact ih.len
    · have h : ((wipeZ η vs).set v none)[i]? = some (some z) := h
      show ∃ w, ((L2.wipe σ vs).set v none)[i]? = some (some w) ∧ _
      by_cases hv : v = i
      · subst hv
        by_cases hl : v < (wipeZ η vs).length
        · rw [List.getElem?_set_self hl] at h
          cases h
        · rw [List.getElem?_eq_none (by rw [List.length_set]; omega)] at h
          cases h
      · rw [List.getElem?_set_ne hv] at h ⊢
        exact ih.at_ i z h
/-- THE COMPREHENSION -/
theorem z_comp {m : Bool} {e : ZE} {t : ZT} {tg : Tg} {it : It} {src : ZL} {σ : St} {H : Hp} {Q : VK}
    (h : TZ K T W (fun η M => (src η M).bind fun zs M1 => match itemsZ it zs with
      | none => .stuck
      | some l => (turns (wipeZ η tg.own) tg t e l [] M1).bind fun acc M2 => ofO (some (newL m acc M2))) σ H Q) :
    tLc (TIz K T W it src) (TGt K T tg) (TB K T WN t) (TZ K T WN e) tg.own σ H Q := by
  obtain ⟨g, M, η, S, L, h⟩ := h
  refine ⟨g, M, η, S, L, h.bind.imp (fun zs M1 h1 => ?_) fun _ _ _ q => q⟩
  split at h1
  · exact h1.elim
  rename_i l el
  refine ⟨l, el, fun g1 H1 J e1 S1 wk D hD => ?_⟩
  -- the invariant: what is left of the turns gives what is wanted
  let η1 := wipeZ η tg.own
  refine ⟨fun i n H' => n = l.length - i ∧ i ≤ l.length ∧ ∃ (g2 : Gh) (M2 : Mem) (acc : List Z) (vs : List V), LeV g1 g2 ∧ g2.tmp = (D, .lst vs) :: g1.tmp ∧ Sim K T g2 M2 H' ∧ RelZs K T g2 acc vs ∧
    ((turns η1 tg t e (l.drop i) acc M2).bind fun acc M2 => ofO (some (newL m acc M2))).To (Fin K T g1 Q) (Out K T W g1), ⟨l.length, rfl, Nat.zero_le _, ?_⟩, ?_⟩
  · refine ⟨g1.tmpS ((D, .lst []) :: g1.tmp), M1, [], [], ⟨fun _ _ h => h, fun _ _ h => h⟩, rfl, S1.begin hD, rfl, ?_⟩
    rw [List.drop_zero]
    exact To.le h1 e1
  · rintro i n H' ⟨rfl, hi, g2, M2, acc, vs, e2, t2, S2, ra, hq⟩
    obtain ⟨w1, w2⟩ := wk g2 M2 H' i e2 S2
    by_cases hlt : i < l.length
    · obtain ⟨z, hz⟩ : ∃ z, l[i]? = some z := ⟨_, List.getElem?_eq_getElem hlt⟩
      obtain ⟨go, yl⟩ := w1 z hz
      rw [List.drop_eq_getElem_cons hlt] at hq
      have ez : l[i] = z := by
        have q := List.getElem?_eq_getElem hlt
        rw [hz] at q
        exact (Option.some.inj q).symm
      rw [ez] at hq
      refine .inr ⟨go, fun H'' => ∃ (g3 : Gh) (M3 : Mem) (acc : List Z) (vs : List V), LeV g1 g3 ∧ g3.tmp = (D, .lst vs) :: g1.tmp ∧ Sim K T g3 M3 H'' ∧ RelZs K T g3 acc vs ∧
        ((turns η1 tg t e (l.drop (i + 1)) acc M3).bind fun acc M2 => ofO (some (newL m acc M2))).To (Fin K T g1 Q) (Out K T W g1), fun H'' q => ⟨l.length - (i + 1), by omega, rfl, hlt, q⟩, fun x H'' y => ?_⟩
      obtain ⟨g3, e3, S3, rz⟩ := yl x H'' y
      unfold turns at hq
      cases ha : asg tg z η1 with
      | none =>
        rw [ha] at hq
        exact hq.elim
      | some η2 =>
        rw [ha] at hq
        dsimp only at hq
        rw [Res.assoc] at hq
        have L3 : Slots K T g3 η1 (L2.wipe σ tg.own) := (((L.wipe tg.own).mono e1.toLeV).mono e2).mono e3.toLeV
        refine ⟨z, g3, M2, η1, η2, S3, L3, rz, ha, fun σ' L' b => ⟨wipe_but b, ?_⟩⟩
        refine ⟨g3, M2, η2, S3, L', (noX_bind hq).imp (fun bt M3 h3 g4 H4 e4 S4 => ?_) fun _ _ _ q => q⟩
        cases bt with
        | true =>
          rw [if_pos rfl, Res.assoc] at h3
          refine ⟨g4, M3, η2, S4, L'.mono e4.toLeV, (noX_bind h3).imp (fun y M4 h4 g5 H5 v e5 S5 r5 => ?_) fun _ _ _ q => q⟩
          have t5 : g5.tmp = (D, .lst vs) :: g1.tmp := by rw [e5.tmp, e4.tmp, e3.tmp, t2]
          have hD5 := (S5.tp (D, .lst vs) (by rw [t5]; exact List.mem_cons_self)).1
          have ra5 : RelZs K T g5 acc vs := ((ra.mono e3.toLeV).mono e4.toLeV).mono e5.toLeV
          by_cases hl : acc.length < sizeLine
          · rw [if_pos hl] at h4
            refine ⟨vs, hD5, by rw [ra5.length]; exact hl, g5.tmpS ((D, .lst (vs ++ [v])) :: g1.tmp), M4, acc ++ [y], vs ++ [v], ?_, rfl, S5.change t5, ?_, h4⟩
            · exact ((e2.trans e3.toLeV).trans (e4.toLeV.trans e5.toLeV)).trans ⟨fun _ _ h => h, fun _ _ h => h⟩
            · have rv : RelZs K T g5 [y] [v] := ⟨v, [], rfl, r5, rfl⟩
              exact RelZs.mono (g := g5) (g' := g5.tmpS ((D, .lst (vs ++ [v])) :: g1.tmp)) ⟨fun _ _ h => h, fun _ _ h => h⟩ (ra5.append rv)
          · rw [if_neg hl] at h4
            exact h4.elim
        | false =>
          rw [if_neg Bool.false_ne_true] at h3 ⊢
          refine ⟨g4, M3, acc, vs, (e2.trans e3.toLeV).trans e4.toLeV, by rw [e4.tmp, e3.tmp, t2], S4, (ra.mono e3.toLeV).mono e4.toLeV, h3⟩
    · have ei : i = l.length := by omega
      subst ei
      refine .inl ⟨w2 (Nat.le_refl _), ?_⟩
      rw [List.drop_length] at hq
      have hq : Fin K T g1 Q (newL m acc M2).1 (newL m acc M2).2 := hq
      cases m with
      | false =>
        obtain ⟨S3, e3⟩ := S2.done t2
        exact hq _ _ _ ⟨e2.trans e3, rfl⟩ S3 ⟨D, vs, rfl, Gh.frz_at, ra.mono e3⟩
      | true =>
        obtain ⟨S3, e3, a3⟩ := S2.doneM t2 ra
        exact hq _ _ _ ⟨e2.trans e3, rfl⟩ S3 ⟨D, rfl, a3⟩
end
end ZM
end
section
/-! ZM, part O: calls of defs; THE THEOREM of expressions. -/
namespace ZM
open PySem L2 PyProof.Rows
section
variable {Φ : Fix} {C : Calls} {d : Nat} {N : List Str} {X : Cx} {sc : Scope} {fn : Str → Bool} {W : XK}
theorem lookup_mem {α β : Type} [BEq α] [LawfulBEq α] : ∀ {l : List (α × β)} {x : α} {v : β}, l.lookup x = some v → (x, v) ∈ l
  | [], _, _, h => by simp at h
  | (y, w) :: r, x, v, h => by
    rw [List.lookup_cons] at h
    split at h
    · rename_i e
      cases h
      rw [eq_of_beq e]
      exact List.mem_cons_self
    · exact List.mem_cons_of_mem _ (lookup_mem h)
theorem fn_glb (F : Φ.Ok) {j k : Nat} {x : Str} (h : gFn Φ.G j k x = true) : Φ.mg x = some (.ref (Φ.T.fn k)) ∧ PySem.W.keepIn Φ.K (.ref (Φ.T.fn k)) = true := by
  unfold gFn at h
  split at h
  · rename_i y k' e
    rw [Bool.and_eq_true] at h
    obtain ⟨h1, h2⟩ := h
    have e1 : y = x := eq_of_beq h1
    have e2 : k = k' := eq_of_beq h2
    subst e1 e2
    exact F.glb _ _ (List.mem_of_getElem? e)
  · cases h
theorem blt_glb (F : Φ.Ok) {x : Str} (h : gBlt Φ.G x = true) : Φ.mg x = none := by
  unfold gBlt at h
  split at h
  · rename_i e
    exact F.glb x .blt (lookup_mem e)
  · cases h
/-- the callee runs -/
theorem run_z (a : At Φ C d N X sc fn W) {k : Nat} {pins : List (Addr × Obj)} {σ : St} {H : Hp} {s : Shared} {ps : List Value} {kw : List (Str × Value)} {us : List Value} {vs : List V} {zs : List Z} {g : Gh} {M : Mem} {Q : VK} (I : Inv X pins σ H s) (hb : BindsTo s (Φ.fd k) ⟨ps, kw⟩ ((Φ.I k).ps.zip us)) (r : Vals vs us) (S : Sim Φ.K Φ.T g M H)
    (rs : RelZs Φ.K Φ.T g zs vs) (hl : zs.length = (Φ.I k).ps.length) (h : (C k zs M).To (Fin Φ.K Φ.T g Q) (Out Φ.K Φ.T W g)) : wpAny (model X.prog X.w) X.A (call (.ref (Φ.T.fn k)) ps kw) (EP X pins σ Q) X.xe s := by
  obtain ⟨P, w, K, mg, base, T, G, If, fd⟩ := Φ
  obtain ⟨e1, e2, e3, e4, e5, e6, e7, nd, calm, room, gd, hfn, hps, calls⟩ := a
  dsimp only at e1 e2 e3 e4 e5
  subst e1 e2 e3 e4 e5
  refine wpAny_call (codeAny_mono (calls k X.A X.stack s H ⟨ps, kw⟩ us vs zs g M Q W room gd I.env0 hb r S rs hl h) fun r s' hq => ?_)
  cases r with
  | error e => exact hps pins σ H s e s' I hq
  | ok fl =>
    cases fl with
    | ret u => exact I.after hq
    | next => exact False.elim hq
    | brk => exact False.elim hq
    | cont => exact False.elim hq
theorem okEs_star {sc : Scope} : ∀ {l : List E} {es : List Expr}, okEs N Φ.G Φ.I sc l es = true → es.all notStar = true ∧ l.length = es.length
  | [], [], _ => ⟨rfl, rfl⟩
  | [], _ :: _, h => by simp [okEs] at h
  | _ :: _, [], h => by simp [okEs] at h
  | e :: l, x :: es, h => by
    unfold okEs at h
    simp only [Bool.and_eq_true] at h
    obtain ⟨h1, h2⟩ := okEs_star h.2
    exact ⟨by rw [List.all_cons, h.1.1, h1]; rfl, by rw [List.length_cons, List.length_cons, h2]⟩
theorem dens_len {l : List E} : ∀ {η : Sl} {M M' : Mem} {zs : List Z}, dens C Φ.G l η M = .ok zs M' → zs.length = l.length := by
  induction l with
  | nil =>
    intro η M M' zs h
    unfold dens at h
    cases h
    rfl
  | cons e l ih =>
    intro η M M' zs h
    unfold dens at h
    cases e1 : den C Φ.G e η M with
    | ok z M1 =>
      rw [e1] at h
      change ((dens C Φ.G l η M1).bind fun zs M2 => .ok (z :: zs) M2) = _ at h
      cases e2 : dens C Φ.G l η M1 with
      | ok ws M2 =>
        rw [e2] at h
        cases h
        rw [List.length_cons, List.length_cons, ih e2]
      | exc k v M2 => rw [e2] at h; cases h
      | stuck => rw [e2] at h; cases h
    | exc k v M1 => rw [e1] at h; cases h
    | stuck => rw [e1] at h; cases h
/-- a reading of arguments, their number known -/
theorem TL.goN {l : List E} {k : Sl → List Z → Mem → Res Z} {σ : St} {H : Hp} {Q : List V → Hp → Prop} {Q' : VK} (h : TZ Φ.K Φ.T W (fun η M => (dens C Φ.G l η M).bind (k η)) σ H Q')
    (c : ∀ (g1 : Gh) (M1 : Mem) (η : Sl) (H1 : Hp) (a : List Z) (v : List V), Sim Φ.K Φ.T g1 M1 H1 → a.length = l.length → RelZs Φ.K Φ.T g1 a v → (k η a M1).To (Fin Φ.K Φ.T g1 Q') (Out Φ.K Φ.T W g1) → Q v H1) : TL Φ.K Φ.T W (dens C Φ.G l) σ H Q := by
  obtain ⟨g, M, η, S, L, h⟩ := h
  refine ⟨g, M, η, S, L, ?_⟩
  cases e : dens C Φ.G l η M with
  | stuck =>
    dsimp only at h
    rw [e] at h
    exact h
  | exc k v M' =>
    dsimp only at h
    rw [e] at h
    exact h
  | ok a M1 =>
    dsimp only at h
    rw [e] at h
    exact fun g1 H1 v e1 S1 r1 => c g1 M1 η H1 a v S1 (dens_len e) r1 (To.le h e1)
theorem call_z (F : Φ.Ok) (a : At Φ C d N X sc fn W) {j k : Nat} {x : Str} {l : List E} {es : List Expr} {p pos : Pos} (h1 : gFn Φ.G j k x = true) (h2 : globB sc x = true) (h3 : plainX x = true) (hl : l.length = (Φ.I k).ps.length) (hs : es.all notStar = true) (hle : l.length = es.length)
    (ha : PA X es (TL Φ.K Φ.T W (dens C Φ.G l))) : PE X (.Call (.Name x p) es [] pos) (TZ Φ.K Φ.T W (fun η M => (dens C Φ.G l η M).bind fun zs M1 => C k zs M1)) := by
  obtain ⟨hm, hk⟩ := fn_glb F h1
  refine ⟨fun pins s σ H Q I h => ?_⟩
  have h' := TL.goN (k := fun _ zs M1 => C k zs M1) (Q := fun vs H1 => ∃ (g1 : Gh) (M1 : Mem) (zs : List Z), Sim Φ.K Φ.T g1 M1 H1 ∧ zs.length = l.length ∧ RelZs Φ.K Φ.T g1 zs vs ∧ (C k zs M1).To (Fin Φ.K Φ.T g1 Q) (Out Φ.K Φ.T W g1)) h fun g1 M1 η H1 zs v S hz r q => ⟨g1, M1, zs, S, hz, r, q⟩
  refine wpAny_Call_Name_kw (ld_glob I (glob_of a.es h2) (by rw [a.em]; exact hm) ?_ (plain_of h3).1)
  have fin : ∀ us s1 vs H1, Inv X pins σ H1 s1 → Vals vs us → (∃ (g1 : Gh) (M1 : Mem) (zs : List Z), Sim Φ.K Φ.T g1 M1 H1 ∧ zs.length = l.length ∧ RelZs Φ.K Φ.T g1 zs vs ∧ (C k zs M1).To (Fin Φ.K Φ.T g1 Q) (Out Φ.K Φ.T W g1)) →
      wpAny (model X.prog X.w) X.A (call (.ref (Φ.T.fn k)) us) (EP X pins σ Q) X.xe s1 := fun us s1 vs H1 I1 r ⟨g1, M1, zs, S, hz, rs, q⟩ =>
    run_z a I1 (F.bd k s1 us (by rw [← r.length, rs.length, hz, hl])) r S rs (hz.trans hl) q
  have hk' : PySem.W.keepIn X.K (.ref (Φ.T.fn k)) = true := by rw [a.eK]; exact hk
  cases es with
  | nil =>
    cases l with
    | cons _ _ => simp at hle
    | nil =>
      obtain ⟨g, M, η, S, L, q⟩ := h'
      exact PySem.W.callWith_K0 I.kIn hk' (fin [] s [] H I .nil (q g H [] (Le.refl g) S rfl))
  | cons e r =>
    rw [List.all_cons, Bool.and_eq_true] at hs
    exact PySem.W.callWith_K (h₀ := X.base) I.ok.mod.kin hk' (thn (ha.run pos pins s σ H _ I h') fun us s1 ⟨vs, H1, I1, r1, q⟩ => ⟨I1.kIn, fin us s1 vs H1 I1 r1 q⟩) (star_of hs.1) (starAny hs.2)
/-- keywords -/
theorem kw_of {env : Env} {pos : Pos} : ∀ {kws : List Keyword}, kws.all (fun q => q.arg.isSome) = true → (backToKw pos (keywordEach kws env)).all (·.1.isSome) = true ∧ (backToKw pos (keywordEach kws env)).any (·.1.isNone) = false ∧
    (backToKw pos (keywordEach kws env)).filterMap (·.1) = kws.filterMap (·.arg)
  | [], _ => ⟨rfl, rfl, rfl⟩
  | ⟨nm, v, kp⟩ :: r, h => by
    rw [List.all_cons, Bool.and_eq_true] at h
    obtain ⟨h1, h2, h3⟩ := kw_of (env := env) (pos := pos) h.2
    cases nm with
    | none => simp at h
    | some y =>
      unfold backToKw at h1 h2 h3 ⊢
      unfold keywordEach
      rw [List.map_cons, List.all_cons, List.any_cons, List.filterMap_cons, List.filterMap_cons, h1, h2, h3]
      exact ⟨rfl, rfl, rfl⟩
theorem permZ_len {l : List Z} : ∀ p : List Nat, (permZ l p).length = p.length
  | [] => rfl
  | i :: r => by rw [permZ, List.length_cons, List.length_cons, permZ_len r]
theorem okEs_app {sc : Scope} : ∀ {es fs : List Expr} {l : List E}, okEs N Φ.G Φ.I sc l (es ++ fs) = true → okEs N Φ.G Φ.I sc (l.take es.length) es = true ∧ okEs N Φ.G Φ.I sc (l.drop es.length) fs = true
  | [], _, _, h => by
    refine ⟨?_, h⟩
    rw [List.length_nil, List.take_zero]
    rfl
  | e :: es, fs, [], h => by simp [okEs] at h
  | e :: es, fs, t :: l, h => by
    rw [List.cons_append] at h
    unfold okEs at h
    simp only [Bool.and_eq_true] at h
    obtain ⟨h1, h2⟩ := okEs_app h.2
    refine ⟨?_, h2⟩
    rw [List.length_cons, List.take_succ_cons]
    unfold okEs
    simp only [Bool.and_eq_true]
    exact ⟨h.1, h1⟩
theorem dens_app : ∀ (l m : List E) (η : Sl) (M : Mem), dens C Φ.G (l ++ m) η M = (dens C Φ.G l η M).bind fun a M1 => (dens C Φ.G m η M1).bind fun b M2 => .ok (a ++ b) M2
  | [], m, η, M => by
    show dens C Φ.G m η M = (dens C Φ.G [] η M).bind _
    have e : dens C Φ.G [] η M = .ok [] M := by unfold dens; rfl
    rw [e]
    show _ = (dens C Φ.G m η M).bind fun b M2 => .ok ([] ++ b) M2
    cases dens C Φ.G m η M <;> rfl
  | e :: l, m, η, M => by
    rw [List.cons_append]
    have e1 : dens C Φ.G (e :: (l ++ m)) η M = (den C Φ.G e η M).bind fun z M1 => (dens C Φ.G (l ++ m) η M1).bind fun zs M2 => .ok (z :: zs) M2 := by rw [dens]
    have e2 : dens C Φ.G (e :: l) η M = (den C Φ.G e η M).bind fun z M1 => (dens C Φ.G l η M1).bind fun zs M2 => .ok (z :: zs) M2 := by rw [dens]
    rw [e1, e2, Res.assoc]
    congr 1
    funext z M1
    rw [dens_app l m η M1, Res.assoc, Res.assoc]
    congr 1
    funext a M2
    rw [Res.assoc]
    show _ = ((dens C Φ.G m η M2).bind fun b M3 => .ok (z :: a ++ b) M3)
    cases dens C Φ.G m η M2 <;> rfl
theorem perm_v {vs : List V} {us : List Value} (r : Vals vs us) : ∀ p : List Nat, Vals (permV V.non vs p) (permV Value.none us p)
  | [] => .nil
  | i :: q => by
    refine .cons ?_ (perm_v r q)
    cases e : vs[i]? with
    | none =>
      rw [List.getD_eq_getElem?_getD, List.getD_eq_getElem?_getD, e, Vals.none_of r e]
      rfl
    | some v =>
      obtain ⟨u, h1, h2⟩ := r.get e
      rw [List.getD_eq_getElem?_getD, List.getD_eq_getElem?_getD, e, h1]
      exact h2
theorem perm_z {K : PySem.W.Frag} {T : Tab} {g : Gh} {zs : List Z} {vs : List V} (r : RelZs K T g zs vs) : ∀ p : List Nat, RelZs K T g (permZ zs p) (permV V.non vs p)
  | [] => rfl
  | i :: q => by
    refine ⟨_, _, rfl, ?_, perm_z r q⟩
    cases e : zs[i]? with
    | none =>
      have e2 : vs[i]? = none := by
        rw [List.getElem?_eq_none_iff] at e ⊢
        rw [r.length]
        exact e
      rw [List.getD_eq_getElem?_getD, List.getD_eq_getElem?_getD, e, e2]
      rfl
    | some z =>
      obtain ⟨v, h1, h2⟩ := r.get e
      rw [List.getD_eq_getElem?_getD, List.getD_eq_getElem?_getD, e, h1]
      exact h2
theorem callK_z (F : Φ.Ok) (a : At Φ C d N X sc fn W) {j k n : Nat} {x : Str} {l : List E} {pm : List Nat} {es : List Expr} {kws : List Keyword} {p pos : Pos} (h1 : gFn Φ.G j k x = true) (h2 : globB sc x = true) (h3 : plainX x = true) (hn : es.length = n)
    (hk : (n, kws.filterMap (·.arg), pm) ∈ (Φ.I k).kw) (hkw : kws.all (fun q => q.arg.isSome) = true) (hs : es.all notStar = true) (hle : l.length = es.length + kws.length)
    (ha : PA X es (TL Φ.K Φ.T W (dens C Φ.G (l.take es.length)))) (hb : PK X kws (TL Φ.K Φ.T W (dens C Φ.G (l.drop es.length)))) :
    PE X (.Call (.Name x p) es kws pos) (TZ Φ.K Φ.T W (fun η M => (dens C Φ.G l η M).bind fun zs M1 => C k (permZ zs pm) M1)) := by
  obtain ⟨hm, hkp⟩ := fn_glb F h1
  refine ⟨fun pins s σ H Q I h => ?_⟩
  have hk' : PySem.W.keepIn X.K (.ref (Φ.T.fn k)) = true := by rw [a.eK]; exact hkp
  obtain ⟨w1, w2, w3⟩ := kw_of (env := X.env) (pos := pos) hkw
  have hkl : (kws.filterMap (·.arg)).length = kws.length := by
    clear w1 w2 w3 hb hk hle h ha
    induction kws with
    | nil => rfl
    | cons q r ih =>
      rw [List.all_cons, Bool.and_eq_true] at hkw
      obtain ⟨y, hy⟩ := Option.isSome_iff_exists.mp hkw.1
      rw [List.filterMap_cons, hy]
      simp [ih hkw.2]
  -- what is wanted behind the keywords' values
  let R : List V → List V → Hp → Prop := fun vs ws H2 => ∃ (g2 : Gh) (M2 : Mem) (zs : List Z), Sim Φ.K Φ.T g2 M2 H2 ∧ RelZs Φ.K Φ.T g2 zs (vs ++ ws) ∧ vs.length = es.length ∧ ws.length = kws.length ∧ (C k (permZ zs pm) M2).To (Fin Φ.K Φ.T g2 Q) (Out Φ.K Φ.T W g2)
  have h' : TL Φ.K Φ.T W (dens C Φ.G (l.take es.length)) σ H fun vs H1 => TL Φ.K Φ.T W (dens C Φ.G (l.drop es.length)) σ H1 fun ws H2 => R vs ws H2 := by
    have e : (fun (η : Sl) (M : Mem) => (dens C Φ.G l η M).bind fun zs M1 => C k (permZ zs pm) M1) = fun η M => (dens C Φ.G (l.take es.length) η M).bind fun za M1 => (dens C Φ.G (l.drop es.length) η M1).bind fun zb M2 => C k (permZ (za ++ zb) pm) M2 := by
      funext η M
      have q := dens_app (C := C) (Φ := Φ) (l.take es.length) (l.drop es.length) η M
      rw [List.take_append_drop] at q
      rw [q, Res.assoc]
      congr 1
      funext za M1
      rw [Res.assoc]
      rfl
    rw [e] at h
    obtain ⟨g, M, η, S, L, h⟩ := h
    refine ⟨g, M, η, S, L, ?_⟩
    dsimp only at h
    cases e1 : dens C Φ.G (l.take es.length) η M with
    | stuck => rw [e1] at h; exact h
    | exc kk v M' => rw [e1] at h; exact h
    | ok za M1 =>
      rw [e1] at h
      intro g1 H1 vs le1 S1 r1
      refine ⟨g1, M1, η, S1, L.mono le1.toLeV, ?_⟩
      have h := To.le (K := Φ.K) (T := Φ.T) (W := W) h le1
      change ((dens C Φ.G (l.drop es.length) η M1).bind fun zb M2 => C k (permZ (za ++ zb) pm) M2).To _ _ at h
      cases e2 : dens C Φ.G (l.drop es.length) η M1 with
      | stuck => rw [e2] at h; exact h
      | exc kk v M' => rw [e2] at h; exact h
      | ok zb M2 =>
        rw [e2] at h
        intro g2 H2 ws le2 S2 r2
        have l1 := dens_len e1
        have l2 := dens_len e2
        rw [List.length_take] at l1
        rw [List.length_drop] at l2
        refine ⟨g2, M2, za ++ zb, S2, (r1.mono le2.toLeV).append r2, ?_, ?_, To.le h le2⟩
        · rw [r1.length]; omega
        · rw [r2.length]; omega
  have fin : ∀ us ws s2 vs vz H2, Inv X pins σ H2 s2 → Vals vs us → Vals vz ws → R vs vz H2 → wpAny (model X.prog X.w) X.A (call (.ref (Φ.T.fn k)) us ((kws.filterMap (·.arg)).zip ws)) (EP X pins σ Q) X.xe s2 := by
    intro us ws s2 vs vz H2 I2 r rz ⟨g2, M2, zs, S2, rs, lv, lw, q⟩
    obtain ⟨b1, b2⟩ := F.kw k n _ pm s2 us ws hk (by rw [← r.length, lv, hn]) (by rw [← rz.length, lw, hkl])
    exact run_z a I2 b2 (perm_v (r.append rz) pm) S2 (perm_z rs pm) ((permZ_len pm).trans b1) q
  refine wpAny_Call_Name_kw (ld_glob I (glob_of a.es h2) (by rw [a.em]; exact hm) ?_ (plain_of h3).1)
  cases es with
  | nil =>
    obtain ⟨g, M, η, S, L, q⟩ := h'
    have e0 : dens C Φ.G (l.take ([] : List Expr).length) η M = .ok [] M := by
      rw [List.length_nil, List.take_zero]
      unfold dens
      rfl
    rw [e0] at q
    refine PySem.W.callWith_KW0 (h₀ := X.base) I.ok.mod.kin hk' w1 (thn (hb.run pos pins s σ H _ I (q g H [] (Le.refl g) S rfl)) fun ws s2 ⟨vz, H2, I2, rz, q2⟩ => ⟨I2.kIn, ?_⟩) (by rw [w2]; rfl)
    rw [w3]
    exact fin [] ws s2 [] vz H2 I2 .nil rz q2
  | cons e r =>
    rw [List.all_cons, Bool.and_eq_true] at hs
    have hs2 : (e :: r).all notStar = true := by rw [List.all_cons, hs.1, hs.2]; rfl
    refine PySem.W.callWith_KW (h₀ := X.base) I.ok.mod.kin hk' w1 (thn (ha.run pos pins s σ H _ I h') fun us s1 ⟨vs, H1, I1, r1, q⟩ => ?_) (by rw [w2, starAny hs2]; rfl) (star_of hs.1)
    refine thn (hb.run pos pins s1 σ H1 _ I1 q) fun ws s2 ⟨vz, H2, I2, rz, q2⟩ => ⟨I2.kIn, ?_⟩
    rw [w3]
    exact fin us ws s2 vs vz H2 I2 r1 rz q2
end
end ZM
end
section
/-! ZM, part P: THE THEOREM of expressions. -/
namespace ZM
open PySem L2 PyProof.Rows
def isBool : Expr → Bool
  | .BoolOp .. => true
  | _ => false
section
variable (Φ : Fix) (C : Calls) (d : Nat) (N : List Str)
/-- where the check says yes, the text does what the term says: as a value, as a test -/
def Good (e : E) : Prop := ∀ (X : Cx) (sc : Scope) (fn : Str → Bool) (W : XK), At Φ C d N X sc fn W → ∀ ast : Expr,
  (okE N Φ.G Φ.I false sc e ast = true → PE X ast (TZ Φ.K Φ.T W (den C Φ.G e))) ∧
  (okE N Φ.G Φ.I true sc e ast = true → PT X ast (TB Φ.K Φ.T W (fun η M => (den C Φ.G e η M).bind tst)) ∧ (isBool ast = true → PW X ast (TB Φ.K Φ.T W (fun η M => (den C Φ.G e η M).bind tst))))
end
section
variable {Φ : Fix} {C : Calls} {d : Nat} {N : List Str} {X : Cx} {sc : Scope} {fn : Str → Bool} {W : XK}
theorem PT.imp' {e : Expr} {t t' : TT} (h : PT X e t) (i : ∀ σ H Q, t' σ H Q → t σ H Q) : PT X e t' := ⟨fun pins s σ H Q I q => h.run pins s σ H Q I (i σ H Q q)⟩
theorem PW.imp' {e : Expr} {t t' : TT} (h : PW X e t) (i : ∀ σ H Q, t' σ H Q → t σ H Q) : PW X e t' := ⟨fun whole pins s σ H Q I q => h.run whole pins s σ H Q I (i σ H Q q)⟩
theorem args_z (a : At Φ C d N X sc fn W) : ∀ {l : List E} {es : List Expr}, (∀ e ∈ l, Good Φ C d N e) → okEs N Φ.G Φ.I sc l es = true → PA X es (TL Φ.K Φ.T W (dens C Φ.G l))
  | [], [], _, _ => by
    refine ⟨fun pos pins s σ H Q I h => pa_nil.run pos pins s σ H Q I (z_nil (K := Φ.K) (T := Φ.T) (W := W) ?_)⟩
    unfold dens at h
    exact h
  | [], _ :: _, _, h => by simp [okEs] at h
  | _ :: _, [], _, h => by simp [okEs] at h
  | e :: l, x :: es, hg, h => by
    unfold okEs at h
    simp only [Bool.and_eq_true] at h
    have h1 := (hg e List.mem_cons_self X sc fn W a x).1 h.1.2
    have h2 := args_z a (fun e he => hg e (List.mem_cons_of_mem _ he)) h.2
    refine ⟨fun pos pins s σ H Q I q => (pa_cons h1 h2 (star_of h.1.1)).run pos pins s σ H Q I (z_cons ?_)⟩
    unfold dens at q
    exact q
theorem kws_z (a : At Φ C d N X sc fn W) : ∀ {l : List E} {kws : List Keyword}, (∀ e ∈ l, Good Φ C d N e) → okEs N Φ.G Φ.I sc l (kws.map (·.value)) = true → PK X kws (TL Φ.K Φ.T W (dens C Φ.G l))
  | [], [], _, _ => by
    refine ⟨fun pos pins s σ H Q I h => pk_nil.run pos pins s σ H Q I (z_nil (K := Φ.K) (T := Φ.T) (W := W) ?_)⟩
    unfold dens at h
    exact h
  | [], _ :: _, _, h => by simp [okEs] at h
  | _ :: _, [], _, h => by simp [okEs] at h
  | e :: l, ⟨nm, x, kp⟩ :: kws, hg, h => by
    rw [List.map_cons] at h
    unfold okEs at h
    simp only [Bool.and_eq_true] at h
    have h1 := (hg e List.mem_cons_self X sc fn W a x).1 h.1.2
    have h2 := kws_z a (fun e he => hg e (List.mem_cons_of_mem _ he)) h.2
    refine ⟨fun pos pins s σ H Q I q => (pk_cons h1 h2).run pos pins s σ H Q I (z_cons ?_)⟩
    unfold dens at q
    exact q
theorem pt_plain (a : At Φ C d N X sc fn W) {ast : Expr} {z : ZE} (h : PE X ast (TZ Φ.K Φ.T W z)) (hp : plainT ast = true) : PT X ast (TB Φ.K Φ.T W (fun η M => (z η M).bind tst)) ∧ (isBool ast = true → PW X ast (TB Φ.K Φ.T W (fun η M => (z η M).bind tst))) := by
  refine ⟨PT.imp' (pt_truth h (plainT_of hp)) fun σ H Q q => ?_, fun hb => ?_⟩
  · rw [a.eK]
    exact TB.tru q
  · cases ast <;> first | (cases hb; done) | (cases hp; done)
theorem z_cc {z : Z} {v : V} {σ : St} {H : Hp} {Q : VK} (h : TZ Φ.K Φ.T W (zC z) σ H Q) (r : ∀ g, RelZ Φ.K Φ.T g z v) : tC v σ H Q := z_c r h
theorem gval_ok (F : Φ.Ok) (a : At Φ C d N X sc fn W) {j : Nat} {x : Str} {p : Pos} (h1 : gVal Φ.G j x = true) (h2 : globB sc x = true) (h3 : plainX x = true) (h4 : (!(x == ("__name__" : Str))) = true) : PE X (.Name x p) (TZ Φ.K Φ.T W (zC (Φ.G.z j))) := by
  unfold gVal at h1
  cases e : Φ.G[j]? with
  | none => rw [e] at h1; cases h1
  | some q =>
    obtain ⟨y, v⟩ := q
    rw [e] at h1
    have ez : Φ.G.z j = v.z := by
      unfold Glb.z
      rw [e]
    rw [ez]
    have hx : ∀ v', v = v' → (y == x) = true → (x, v') ∈ Φ.G := fun v' ev ey => by
      rw [← eq_of_beq ey, ← ev]
      exact List.mem_of_getElem? e
    have hg := glob_of a.es h2
    have hd := (plain_of h3).1
    cases v with
    | blt => cases h1
    | fn k =>
      have q := F.glb x (.fn k) (hx _ rfl h1)
      exact PE.imp (pe_glob (v := .ref (Φ.T.fn k)) hg (by rw [a.em]; exact q.1) rfl hd) fun σ H Q hq => z_cc (v := .ref (Φ.T.fn k)) hq (fun _ => rfl)
    | ty t =>
      have q := F.glb x (.ty t) (hx _ rfl h1)
      have hn : x ≠ "__name__" := fun z => by
        rw [z] at h4
        simp at h4
      exact PE.imp (pe_bltn (v := .ty t.name) hg (by rw [a.em]; exact q.1) q.2 rfl hn hd) fun σ H Q hq => z_cc (v := .ty t.name) hq (fun _ => rfl)
    | con z =>
      obtain ⟨u, v, q1, q2, q3⟩ := F.glb x (.con z) (hx _ rfl h1)
      exact PE.imp (pe_glob (v := v) hg (by rw [a.em]; exact q1) q2 hd) fun σ H Q hq => z_cc (v := v) hq q3
theorem const_ok {z : Z} {ast : Expr} (h : okE N Φ.G Φ.I false sc (.c z) ast = true) : PE X ast (TZ Φ.K Φ.T W (zC z)) := by
  unfold okE at h
  split at h
  · exact PE.imp pe_non fun σ H Q hq => z_cc (v := .non) hq (fun _ => rfl)
  · rw [eq_of_beq h]
    exact PE.imp pe_bl fun σ H Q hq => z_cc (v := .bl _) hq (fun _ => rfl)
  · rw [of_decide_eq_true h]
    exact PE.imp pe_int fun σ H Q hq => z_cc (v := .int _) hq (fun _ => rfl)
  · rw [eq_of_beq h]
    exact PE.imp pe_str fun σ H Q hq => z_cc (v := .str _) hq (fun _ => rfl)
  · cases h
theorem bi_ok (F : Φ.Ok) (a : At Φ C d N X sc fn W) {b : Bi} {l : List E} {x : Str} {e : Expr} {es : List Expr} {p pos : Pos} (h1 : x = b.name) (h2 : gBlt Φ.G x = true) (h3 : globB sc x = true) (hs : (e :: es).all notStar = true)
    (ha : PA X (e :: es) (TL Φ.K Φ.T W (dens C Φ.G l))) : PE X (.Call (.Name x p) (e :: es) [] pos) (TZ Φ.K Φ.T W (fun η M => (dens C Φ.G l η M).bind fun zs M1 => ofO (biSem b zs M1))) := by
  have hm : X.mg x = none := by
    rw [a.em]
    exact blt_glb F h2
  have hg := glob_of a.es h3
  rw [List.all_cons, Bool.and_eq_true] at hs
  have o := o_bi a.calm a.gd a.hu b
  have fin : ∀ σ H Q, TZ Φ.K Φ.T W (fun η M => (dens C Φ.G l η M).bind fun zs M1 => ofO (biSem b zs M1)) σ H Q → tCB (RBi X.K b) (TL Φ.K Φ.T W (dens C Φ.G l)) σ H Q := fun σ H Q q => by
    rw [a.eK]
    exact z_bi q
  subst h1
  cases b
  · exact PE.imp (pe_callB o hg hm (by decide +kernel) ha (by decide) (by decide) (star_of hs.1) (starAny hs.2)) fin
  · exact PE.imp (pe_callB o hg hm (by decide +kernel) ha (by decide) (by decide) (star_of hs.1) (starAny hs.2)) fin
  · exact PE.imp (pe_callTy o hg hm (by decide +kernel) ha (by decide) (by decide) (star_of hs.1) (starAny hs.2)) fin
  · exact PE.imp (pe_callB o hg hm (by decide +kernel) ha (by decide) (by decide) (star_of hs.1) (starAny hs.2)) fin
  · exact PE.imp (pe_callB o hg hm (by decide +kernel) ha (by decide) (by decide) (star_of hs.1) (starAny hs.2)) fin
  · exact PE.imp (pe_callB o hg hm (by decide +kernel) ha (by decide) (by decide) (star_of hs.1) (starAny hs.2)) fin
  · exact PE.imp (pe_callB o hg hm (by decide +kernel) ha (by decide) (by decide) (star_of hs.1) (starAny hs.2)) fin
  · exact PE.imp (pe_callTy o hg hm (show bootBuiltins "list" = some (.type "list") by decide +kernel) ha (show ("list" : Str) ≠ "__name__" by decide) (show (("list" : Str) == "__debug__") = false by decide) (star_of hs.1) (starAny hs.2)) fin
theorem few_of {X : Cx} {pos : Pos} {es : List Expr} (hs : es.all notStar = true) (h : es.length < 30) :
    ((backTo pos (starEach es X.env)).all (fun x => !x.1) && (backToKw pos (keywordEach [] X.env)).all (fun x => x.1.isSome) && decide (es.length + ([] : List Keyword).length + (if ([] : List Keyword).isEmpty then 0 else 1) < 30)) = true := by
  have e : (backTo pos (starEach es X.env)).all (fun x => !x.1) = true := by
    have q := starAny (pos := pos) (env := X.env) hs
    rw [List.all_eq_true]
    intro y hy
    rw [List.any_eq_false] at q
    simpa using q y hy
  rw [e]
  have e2 : (backToKw pos (keywordEach [] X.env)).all (fun x => x.1.isSome) = true := rfl
  rw [e2]
  simpa using h
theorem me_ok (a : At Φ C d N X sc fn W) {b : Me} {o : E} {l : List E} {x : Expr} {n : Str} {es : List Expr} {ap pos : Pos} (h1 : n = b.name) (h2 : baseOk x = true) (h3 : (ap.endLine == pos.line) = true) (hs : es.all notStar = true) (hle : l.length = es.length) (h30 : es.length < 30)
    (hn : (b = .bits ∨ b = .pop) → es = []) (hn2 : (b = .append ∨ b = .popAt) → es ≠ []) (ho : PE X x (TZ Φ.K Φ.T W (den C Φ.G o))) (ha : PA X es (TL Φ.K Φ.T W (dens C Φ.G l))) :
    PE X (.Call (.Attribute x n ap) es [] pos) (TZ Φ.K Φ.T W (fun η M => (den C Φ.G o η M).bind fun y M1 => if rcv b y M1 = true then (dens C Φ.G l η M1).bind fun zs M2 => ofO (meSem b y zs M2) else .stuck)) := by
  subst h1
  have l0 : es = [] → ∀ η M, dens C Φ.G l η M = .ok [] M := fun e η M => by
    rw [e] at hle
    cases l with
    | nil => unfold dens; rfl
    | cons _ _ => simp at hle
  cases b
  · cases es with
    | nil => exact absurd rfl (hn2 (.inl rfl))
    | cons e r =>
      have hs' := hs
      rw [List.all_cons, Bool.and_eq_true] at hs
      refine PE.imp (pe_bm PySem.F.plainAttrs_list PySem.F.slot_list_append PySem.F.type_list_append mt_append ho ha (base_of h2) (few_of hs' h30) h3 (star_of hs.1) (starAny hs.2)) fun σ H Q q => ?_
      rw [a.eK]
      exact z_append q
  · obtain rfl := hn (.inr rfl)
    refine PE.imp (pe_bm0 PySem.F.plainAttrs_list PySem.F.slot_list_pop PySem.F.type_list_pop mt_pop ho (base_of h2) h3) fun σ H Q q => ?_
    rw [a.eK]
    exact z_pop (l0 rfl) q
  · cases es with
    | nil => exact absurd rfl (hn2 (.inr rfl))
    | cons e r =>
      have hs' := hs
      rw [List.all_cons, Bool.and_eq_true] at hs
      refine PE.imp (pe_bm PySem.F.plainAttrs_list PySem.F.slot_list_pop PySem.F.type_list_pop mt_popAt ho ha (base_of h2) (few_of hs' h30) h3 (star_of hs.1) (starAny hs.2)) fun σ H Q q => ?_
      rw [a.eK]
      exact z_popAt q
  · obtain rfl := hn (.inl rfl)
    exact PE.imp (pe_bits ho (base_of h2) h3) fun σ H Q q => z_bits (l0 rfl) q
theorem ownN_ix : ∀ l : List Nat, (ownN N l).map (·.2) = l
  | [] => rfl
  | i :: r => by rw [ownN, List.map_cons, ownN_ix r]
/-- what is walked -/
theorem walk_ok (F : Φ.Ok) (a : At Φ C d N X sc fn W) {it : It} {src : List E} {iter tg : Expr} (hg : ∀ e ∈ src, Good Φ C d N e)
    (h : (match it, iter with
        | .list, z => okEs N Φ.G Φ.I sc src [z]
        | .tup, z => okEs N Φ.G Φ.I sc src [z]
        | .range1, .Call (.Name f _) [u] [] _ => f == ("range" : Str) && gBlt Φ.G f && globB sc f && okEs N Φ.G Φ.I sc src [u]
        | .range2, .Call (.Name f _) [u, v] [] _ => f == ("range" : Str) && gBlt Φ.G f && globB sc f && okEs N Φ.G Φ.I sc src [u, v]
        | .enum, .Call (.Name f _) [u] [] _ => f == ("enumerate" : Str) && gBlt Φ.G f && globB sc f && okEs N Φ.G Φ.I sc src [u] && isTup tg
        | .zip, .Call (.Name f _) [u, v] [] _ => f == ("zip" : Str) && gBlt Φ.G f && globB sc f && okEs N Φ.G Φ.I sc src [u, v] && isTup tg
        | _, _ => false) = true) : PI X tg iter (TIz Φ.K Φ.T W it (dens C Φ.G src)) := by
  have one : ∀ z, okEs N Φ.G Φ.I sc src [z] = true → ∃ e, src = [e] ∧ notStar z = true ∧ PE X z (TZ Φ.K Φ.T W (den C Φ.G e)) ∧ ∀ η M, dens C Φ.G src η M = (den C Φ.G e η M).bind fun x M1 => .ok [x] M1 := by
    intro z hz
    cases src with
    | nil => simp [okEs] at hz
    | cons e r =>
      unfold okEs at hz
      simp only [Bool.and_eq_true] at hz
      cases r with
      | nil =>
        refine ⟨e, rfl, hz.1.1, (hg e List.mem_cons_self X sc fn W a z).1 hz.1.2, fun η M => ?_⟩
        unfold dens
        congr 1
      | cons _ _ => simp [okEs] at hz
  have st : ∀ {es : List Expr}, okEs N Φ.G Φ.I sc src es = true → es.all notStar = true := fun h => (okEs_star h).1
  split at h
  · obtain ⟨e, rfl, _, he, hd⟩ := one _ h
    refine PI.imp (pi_list he) fun σ H R q => ?_
    rw [a.eK]
    exact (z_walk1 (.inl rfl) hd q).1 rfl
  · obtain ⟨e, rfl, _, he, hd⟩ := one _ h
    refine PI.imp (pi_tup he) fun σ H R q => ?_
    rw [a.eK]
    exact (z_walk1 (.inr rfl) hd q).2 rfl
  · simp only [Bool.and_eq_true] at h
    obtain ⟨⟨⟨h1, h2⟩, h3⟩, h4⟩ := h
    have e1 := eq_of_beq h1
    subst e1
    have hs := st h4
    rw [List.all_cons, Bool.and_eq_true] at hs
    exact PI.imp (pi_range1 (glob_of a.es h3) (by rw [a.em]; exact blt_glb F h2) (args_z a hg h4) (by rw [star_of hs.1]; rfl)) fun σ H R q => z_range1 q
  · simp only [Bool.and_eq_true] at h
    obtain ⟨⟨⟨h1, h2⟩, h3⟩, h4⟩ := h
    have e1 := eq_of_beq h1
    subst e1
    have hs := st h4
    rw [List.all_cons, List.all_cons, Bool.and_eq_true, Bool.and_eq_true] at hs
    exact PI.imp (pi_range2 (glob_of a.es h3) (by rw [a.em]; exact blt_glb F h2) (args_z a hg h4) (by rw [star_of hs.1, star_of hs.2.1]; rfl) (by rw [star_of hs.2.1]; rfl)) fun σ H R q => z_range2 q
  · simp only [Bool.and_eq_true] at h
    obtain ⟨⟨⟨⟨h1, h2⟩, h3⟩, h4⟩, h5⟩ := h
    have e1 := eq_of_beq h1
    subst e1
    have hs := st h4
    rw [List.all_cons, Bool.and_eq_true] at hs
    cases tg <;> first | (cases h5; done) | skip
    refine PI.imp (pi_enum (glob_of a.es h3) (by rw [a.em]; exact blt_glb F h2) (args_z a hg h4) (by rw [star_of hs.1]; rfl)) fun σ H R q => ?_
    rw [a.eK]
    exact z_enum q
  · simp only [Bool.and_eq_true] at h
    obtain ⟨⟨⟨⟨h1, h2⟩, h3⟩, h4⟩, h5⟩ := h
    have e1 := eq_of_beq h1
    subst e1
    have hs := st h4
    rw [List.all_cons, List.all_cons, Bool.and_eq_true, Bool.and_eq_true] at hs
    cases tg <;> first | (cases h5; done) | skip
    refine PI.imp (pi_zip (glob_of a.es h3) (by rw [a.em]; exact blt_glb F h2) (args_z a hg h4) (star_of hs.1) (by rw [star_of hs.2.1]; rfl)) fun σ H R q => ?_
    rw [a.eK]
    exact z_zip q
  · cases h
theorem noBool (hb : isBool (.BoolOp .And [] ⟨0, 0, 0, 0⟩) = true) : True := trivial
theorem z_frz {K : PySem.W.Frag} {T : Tab} {W : XK} {z : ZE} {σ : St} {H : Hp} {Q : VK} (h : TZ K T W (fun η M => (z η M).bind frzR) σ H Q) : TZ K T W z σ H Q := by
  refine TZ.go (k := fun _ => frzR) h fun g1 M1 η H1 a v S1 L1 r1 h1 => ?_
  unfold frzR at h1
  split at h1
  · rename_i n
    split at h1
    · rename_i l e
      obtain ⟨a, vs, q1, q2, S2, e2⟩ := S1.freeze e
      obtain ⟨b, rfl, q3⟩ := r1
      rw [q1] at q3
      cases q3
      exact h1 _ _ _ e2 S2 ⟨a, vs, rfl, Gh.frz_at, q2.mono e2.toLeV⟩
    · exact h1.elim
  · exact h1.elim
mutual
theorem good (F : Φ.Ok) : ∀ e : E, Good Φ C d N e
  | .var i => fun X sc fn W a ast => by
    have v : okE N Φ.G Φ.I false sc (.var i) ast = true → PE X ast (TZ Φ.K Φ.T W (den C Φ.G (.var i))) ∧ plainT ast = true := fun h => by
      unfold okE at h
      split at h
      · simp only [Bool.and_eq_true, decide_eq_true_eq] at h
        have p := plain_of h.2
        refine ⟨PE.imp (pe_var (by rw [a.eN]; exact h.1.1) (vis_of a.es h.1.2) p.1 p.2) fun σ H Q q => z_var (by unfold den at q; exact q), rfl⟩
      · cases h
    exact ⟨fun h => (v h).1, fun h => pt_plain a (v (by unfold okE at h ⊢; exact h)).1 (v (by unfold okE at h ⊢; exact h)).2⟩
  | .c z => fun X sc fn W a ast => by
    have v : okE N Φ.G Φ.I false sc (.c z) ast = true → PE X ast (TZ Φ.K Φ.T W (den C Φ.G (.c z))) ∧ plainT ast = true := fun h => by
      refine ⟨by unfold den; exact const_ok h, ?_⟩
      unfold okE at h
      split at h <;> first | rfl | cases h
    exact ⟨fun h => (v h).1, fun h => pt_plain a (v (by unfold okE at h ⊢; exact h)).1 (v (by unfold okE at h ⊢; exact h)).2⟩
  | .gv j => fun X sc fn W a ast => by
    have v : okE N Φ.G Φ.I false sc (.gv j) ast = true → PE X ast (TZ Φ.K Φ.T W (den C Φ.G (.gv j))) ∧ plainT ast = true := fun h => by
      unfold okE at h
      split at h
      · simp only [Bool.and_eq_true] at h
        refine ⟨by unfold den; exact gval_ok F a h.1.1.1 h.1.1.2 h.1.2 h.2, rfl⟩
      · cases h
    exact ⟨fun h => (v h).1, fun h => pt_plain a (v (by unfold okE at h ⊢; exact h)).1 (v (by unfold okE at h ⊢; exact h)).2⟩
  | .op o l r => fun X sc fn W a ast => by
    refine ⟨fun h => ?_, fun h => ?_⟩
    · unfold okE at h
      split at h
      · simp only [Bool.and_eq_true, decide_eq_true_eq] at h
        rw [h.1.1.2]
        refine PE.imp (pe_op (o_O2 (K := Φ.K) X o) ((good F l X sc fn W a _).1 h.1.2) ((good F r X sc fn W a _).1 h.2)) fun σ H Q q => ?_
        unfold den at q
        exact z_op (s_O2 (K := Φ.K) (T := Φ.T) o) q
      · cases h
    · unfold okE at h
      split at h
      · simp at h
      · cases h
  | .cmp o l r => fun X sc fn W a ast => by
    have oc := o_C2 a.hu a.eK o
    have sc' := s_C2 (K := Φ.K) (T := Φ.T) o
    refine ⟨fun h => ?_, fun h => ?_⟩
    · unfold okE at h
      split at h
      · simp only [Bool.and_eq_true, decide_eq_true_eq] at h
        rw [h.1.1.1]
        refine PE.imp (pe_cmpR oc ((good F l X sc fn W a _).1 h.1.2) ((good F r X sc fn W a _).1 h.2) (marks_of h.1.1.2)) fun σ H Q q => ?_
        unfold den at q
        exact z_op sc' q
      · cases h
    · unfold okE at h
      split at h
      · simp only [Bool.and_eq_true, decide_eq_true_eq] at h
        rw [h.1.1.1]
        refine ⟨PT.imp' (pt_cmpR oc ((good F l X sc fn W a _).1 h.1.2) ((good F r X sc fn W a _).1 h.2) (marks_of h.1.1.2)) fun σ H Q q => ?_, fun hb => by cases hb⟩
        refine z_op sc' (TB.bl (fun η M b M' e => ?_) (by unfold den at q; exact q))
        unfold zOp at e
        cases e1 : den C Φ.G l η M with
        | ok x M1 =>
          rw [e1] at e
          change ((den C Φ.G r η M1).bind fun y M2 => ofO (o.sem x y M2)) = _ at e
          cases e2 : den C Φ.G r η M1 with
          | ok y M2 =>
            rw [e2] at e
            change ofO (o.sem x y M2) = _ at e
            cases e3 : o.sem x y M2 with
            | none => rw [e3] at e; cases e
            | some p =>
              rw [e3] at e
              cases e
              exact C2.bool o e3
          | exc _ _ _ => rw [e2] at e; cases e
          | stuck => rw [e2] at e; cases e
        | exc _ _ _ => rw [e1] at e; cases e
        | stuck => rw [e1] at e; cases e
      · cases h
  | .chain o o' l m r => fun X sc fn W a ast => by
    have oc := o_C2 a.hu a.eK o
    have oc' := o_C2 a.hu a.eK o'
    have s1 := s_C2 (K := Φ.K) (T := Φ.T) o
    have s2 := s_C2 (K := Φ.K) (T := Φ.T) o'
    refine ⟨fun h => ?_, fun h => ?_⟩
    · unfold okE at h
      split at h
      · simp only [Bool.and_eq_true, decide_eq_true_eq] at h
        rw [h.1.1.1.1.1, h.1.1.1.1.2]
        refine PE.imp (pe_chain oc oc' ((good F l X sc fn W a _).1 h.1.1.2) ((good F m X sc fn W a _).1 h.1.2) ((good F r X sc fn W a _).1 h.2) (marks2_of h.1.1.1.2)) fun σ H Q q => ?_
        unfold den at q
        exact z_chain s1 s2 q
      · cases h
    · unfold okE at h
      split at h
      · simp only [Bool.and_eq_true, decide_eq_true_eq] at h
        rw [h.1.1.1.1.1, h.1.1.1.1.2]
        refine ⟨PT.imp' (pt_chain oc oc' ((good F l X sc fn W a _).1 h.1.1.2) ((good F m X sc fn W a _).1 h.1.2) ((good F r X sc fn W a _).1 h.2) (marks2_of h.1.1.1.2)) fun σ H Q q => ?_, fun hb => by cases hb⟩
        refine z_chain s1 s2 (TB.bl (fun η M b M' e => ?_) (by unfold den at q; exact q))
        cases e1 : den C Φ.G l η M with
        | ok x M1 =>
          rw [e1] at e
          change ((den C Φ.G m η M1).bind fun y M2 => (ofO (o.sem x y M2)).bind fun t M3 => (tstB t M3).bind fun k M4 => if k = true then (den C Φ.G r η M4).bind fun w M5 => ofO (o'.sem y w M5) else .ok (.bl false) M4) = _ at e
          cases e2 : den C Φ.G m η M1 with
          | ok y M2 =>
            rw [e2] at e
            change ((ofO (o.sem x y M2)).bind fun t M3 => (tstB t M3).bind fun k M4 => if k = true then (den C Φ.G r η M4).bind fun w M5 => ofO (o'.sem y w M5) else .ok (.bl false) M4) = _ at e
            cases e3 : o.sem x y M2 with
            | none => rw [e3] at e; cases e
            | some p =>
              obtain ⟨t, M3⟩ := p
              obtain ⟨b3, eb⟩ := C2.bool o e3
              rw [e3, eb] at e
              change (if b3 = true then (den C Φ.G r η M3).bind fun w M5 => ofO (o'.sem y w M5) else .ok (.bl false) M3) = _ at e
              cases b3 with
              | false =>
                rw [if_neg Bool.false_ne_true] at e
                cases e
                exact ⟨false, rfl⟩
              | true =>
                rw [if_pos rfl] at e
                cases e4 : den C Φ.G r η M3 with
                | ok w M5 =>
                  rw [e4] at e
                  change ofO (o'.sem y w M5) = _ at e
                  cases e5 : o'.sem y w M5 with
                  | none => rw [e5] at e; cases e
                  | some p =>
                    rw [e5] at e
                    cases e
                    exact C2.bool o' e5
                | exc _ _ _ => rw [e4] at e; cases e
                | stuck => rw [e4] at e; cases e
          | exc _ _ _ => rw [e2] at e; cases e
          | stuck => rw [e2] at e; cases e
        | exc _ _ _ => rw [e1] at e; cases e
        | stuck => rw [e1] at e; cases e
      · cases h
  | .neg e => fun X sc fn W a ast => by
    refine ⟨fun h => ?_, fun h => ?_⟩
    · unfold okE at h
      split at h
      · simp only [Bool.and_eq_true] at h
        refine PE.imp (pe_un un_neg ((good F e X sc fn W a _).1 h.2)) fun σ H Q q => ?_
        unfold den at q
        exact z_un s_neg q
      · cases h
    · unfold okE at h
      split at h
      · simp at h
      · cases h
  | .not e => fun X sc fn W a ast => by
    refine ⟨fun h => ?_, fun h => ?_⟩
    · unfold okE at h
      split at h
      · refine PE.imp (pe_notT ((good F e X sc fn W a _).1 h)) fun σ H Q q => ?_
        rw [a.eK]
        unfold den at q
        exact z_notV q
      · cases h
    · unfold okE at h
      split at h
      · refine ⟨PT.imp' (pt_not ((good F e X sc fn W a _).2 h).1) fun σ H Q q => ?_, fun hb => by cases hb⟩
        unfold den at q
        exact z_notB q
      · cases h
  | .and l r => fun X sc fn W a ast => by
    refine ⟨fun h => ?_, fun h => ?_⟩
    · unfold okE at h
      split at h
      · simp only [Bool.and_eq_true] at h
        refine PE.imp (pe_andT ((good F l X sc fn W a _).1 h.1) (pe_one ((good F r X sc fn W a _).1 h.2))) fun σ H Q q => ?_
        rw [a.eK]
        unfold den at q
        exact z_andV q
      · simp only [Bool.and_eq_true] at h
        refine PE.imp (pe_andT ((good F l X sc fn W a _).1 h.1) ((good F r X sc fn W a _).1 h.2)) fun σ H Q q => ?_
        rw [a.eK]
        unfold den at q
        exact z_andV q
      · cases h
    · unfold okE at h
      split at h
      · simp only [Bool.and_eq_true] at h
        rename_i x y p
        have w : PW X (.BoolOp .And [x, y] p) (TB Φ.K Φ.T W (fun η M => (den C Φ.G (.and l r) η M).bind tst)) := PW.imp' (pw_and ((good F l X sc fn W a _).2 h.1).1 (pw_and1 ((good F r X sc fn W a _).2 h.2).1)) fun σ H Q q => by
          unfold den at q
          exact z_andB q
        exact ⟨w.pt, fun _ => w⟩
      · simp only [Bool.and_eq_true] at h
        rename_i x y z u p
        have w : PW X (.BoolOp .And (x :: y :: z :: u) p) (TB Φ.K Φ.T W (fun η M => (den C Φ.G (.and l r) η M).bind tst)) := PW.imp' (pw_and ((good F l X sc fn W a _).2 h.1).1 (((good F r X sc fn W a _).2 h.2).2 rfl)) fun σ H Q q => by
          unfold den at q
          exact z_andB q
        exact ⟨w.pt, fun _ => w⟩
      · cases h
  | .or l r => fun X sc fn W a ast => by
    refine ⟨fun h => ?_, fun h => ?_⟩
    · unfold okE at h
      split at h
      · simp only [Bool.and_eq_true] at h
        refine PE.imp (pe_orT ((good F l X sc fn W a _).1 h.1) (pe_one ((good F r X sc fn W a _).1 h.2))) fun σ H Q q => ?_
        rw [a.eK]
        unfold den at q
        exact z_orV q
      · simp only [Bool.and_eq_true] at h
        refine PE.imp (pe_orT ((good F l X sc fn W a _).1 h.1) ((good F r X sc fn W a _).1 h.2)) fun σ H Q q => ?_
        rw [a.eK]
        unfold den at q
        exact z_orV q
      · cases h
    · unfold okE at h
      split at h
      · simp only [Bool.and_eq_true] at h
        rename_i x y p
        have w : PW X (.BoolOp .Or [x, y] p) (TB Φ.K Φ.T W (fun η M => (den C Φ.G (.or l r) η M).bind tst)) := PW.imp' (pw_or ((good F l X sc fn W a _).2 h.1).1 (pw_or1 ((good F r X sc fn W a _).2 h.2).1)) fun σ H Q q => by
          unfold den at q
          exact z_orB q
        exact ⟨w.pt, fun _ => w⟩
      · simp only [Bool.and_eq_true] at h
        rename_i x y z u p
        have w : PW X (.BoolOp .Or (x :: y :: z :: u) p) (TB Φ.K Φ.T W (fun η M => (den C Φ.G (.or l r) η M).bind tst)) := PW.imp' (pw_or ((good F l X sc fn W a _).2 h.1).1 (((good F r X sc fn W a _).2 h.2).2 rfl)) fun σ H Q q => by
          unfold den at q
          exact z_orB q
        exact ⟨w.pt, fun _ => w⟩
      · cases h
  | .ite c l r => fun X sc fn W a ast => by
    refine ⟨fun h => ?_, fun h => ?_⟩
    · unfold okE at h
      split at h
      · simp only [Bool.and_eq_true] at h
        refine PE.imp (pe_ifExp ((good F c X sc fn W a _).2 h.1.1.2).1 ((good F l X sc fn W a _).1 h.1.2) ((good F r X sc fn W a _).1 h.2)) fun σ H Q q => ?_
        unfold den at q
        exact z_ite q
      · cases h
    · unfold okE at h
      split at h
      · simp at h
      · cases h
  | .tup l => fun X sc fn W a ast => by
    refine ⟨fun h => ?_, fun h => ?_⟩
    · unfold okE at h
      split at h
      · simp only [Bool.and_eq_true] at h
        refine PE.imp (pe_tup (args_z a (goods F l) h.2)) fun σ H Q q => ?_
        unfold den at q
        exact z_tup q
      · cases h
    · unfold okE at h
      split at h
      · simp at h
      · cases h
  | .lst m l => fun X sc fn W a ast => by
    refine ⟨fun h => ?_, fun h => ?_⟩
    · unfold okE at h
      split at h
      · simp only [Bool.and_eq_true] at h
        refine PE.imp (pe_lst (args_z a (goods F l) h.2)) fun σ H Q q => ?_
        unfold den at q
        exact z_lst q
      · cases h
    · unfold okE at h
      split at h
      · simp at h
      · cases h
  | .dic0 => fun X sc fn W a ast => by
    refine ⟨fun h => ?_, fun h => ?_⟩
    · unfold okE at h
      split at h
      · refine PE.imp pe_dnewK fun σ H Q q => ?_
        unfold den at q
        exact z_dic0 q
      · cases h
    · unfold okE at h
      split at h
      · simp at h
      · cases h
  | .ix l r => fun X sc fn W a ast => by
    have v : okE N Φ.G Φ.I false sc (.ix l r) ast = true → PE X ast (TZ Φ.K Φ.T W (den C Φ.G (.ix l r))) ∧ plainT ast = true := fun h => by
      unfold okE at h
      split at h
      · simp only [Bool.and_eq_true] at h
        refine ⟨PE.imp (pe_ix ix_seq ((good F l X sc fn W a _).1 h.1.2) ((good F r X sc fn W a _).1 h.2) (slice_of h.1.1)) fun σ H Q q => ?_, rfl⟩
        rw [a.eK]
        unfold den at q
        exact z_op s_ix q
      · cases h
    exact ⟨fun h => (v h).1, fun h => pt_plain a (v (by unfold okE at h ⊢; exact h)).1 (v (by unfold okE at h ⊢; exact h)).2⟩
  | .slA m l r => fun X sc fn W a ast => by
    have v : okE N Φ.G Φ.I false sc (.slA m l r) ast = true → PE X ast (TZ Φ.K Φ.T W (den C Φ.G (.slA m l r))) ∧ plainT ast = true := fun h => by
      unfold okE at h
      split at h
      · simp only [Bool.and_eq_true] at h
        refine ⟨PE.imp (pe_slice sl_list ((good F l X sc fn W a _).1 h.1) (po_some ((good F r X sc fn W a _).1 h.2)) po_none) fun σ H Q q => ?_, rfl⟩
        rw [a.eK]
        unfold den at q
        exact z_slA q
      · cases h
    exact ⟨fun h => (v h).1, fun h => pt_plain a (v (by unfold okE at h ⊢; exact h)).1 (v (by unfold okE at h ⊢; exact h)).2⟩
  | .slB m l r => fun X sc fn W a ast => by
    have v : okE N Φ.G Φ.I false sc (.slB m l r) ast = true → PE X ast (TZ Φ.K Φ.T W (den C Φ.G (.slB m l r))) ∧ plainT ast = true := fun h => by
      unfold okE at h
      split at h
      · simp only [Bool.and_eq_true] at h
        refine ⟨PE.imp (pe_slice sl_list ((good F l X sc fn W a _).1 h.1) po_none (po_some ((good F r X sc fn W a _).1 h.2))) fun σ H Q q => ?_, rfl⟩
        rw [a.eK]
        unfold den at q
        exact z_slB q
      · cases h
    exact ⟨fun h => (v h).1, fun h => pt_plain a (v (by unfold okE at h ⊢; exact h)).1 (v (by unfold okE at h ⊢; exact h)).2⟩
  | .slC m l r t => fun X sc fn W a ast => by
    have v : okE N Φ.G Φ.I false sc (.slC m l r t) ast = true → PE X ast (TZ Φ.K Φ.T W (den C Φ.G (.slC m l r t))) ∧ plainT ast = true := fun h => by
      unfold okE at h
      split at h
      · simp only [Bool.and_eq_true] at h
        refine ⟨PE.imp (pe_slice sl_list ((good F l X sc fn W a _).1 h.1.1) (po_some ((good F r X sc fn W a _).1 h.1.2)) (po_some ((good F t X sc fn W a _).1 h.2))) fun σ H Q q => ?_, rfl⟩
        rw [a.eK]
        unfold den at q
        exact z_slC q
      · cases h
    exact ⟨fun h => (v h).1, fun h => pt_plain a (v (by unfold okE at h ⊢; exact h)).1 (v (by unfold okE at h ⊢; exact h)).2⟩
  | .frz l => fun X sc fn W a ast => by
    refine ⟨fun h => ?_, fun h => ?_⟩
    · unfold okE at h
      simp only [Bool.and_eq_true] at h
      refine PE.imp ((good F l X sc fn W a _).1 h.2) fun σ H Q q => ?_
      unfold den at q
      exact z_frz q
    · unfold okE at h
      simp at h
  | .slD m l => fun X sc fn W a ast => by
    have v : okE N Φ.G Φ.I false sc (.slD m l) ast = true → PE X ast (TZ Φ.K Φ.T W (den C Φ.G (.slD m l))) ∧ plainT ast = true := fun h => by
      unfold okE at h
      split at h
      · refine ⟨PE.imp (pe_slice sl_list ((good F l X sc fn W a _).1 h) po_none po_none) fun σ H Q q => ?_, rfl⟩
        rw [a.eK]
        unfold den at q
        exact z_slD q
      · cases h
    exact ⟨fun h => (v h).1, fun h => pt_plain a (v (by unfold okE at h ⊢; exact h)).1 (v (by unfold okE at h ⊢; exact h)).2⟩
  | .call j k l => fun X sc fn W a ast => by
    have v : okE N Φ.G Φ.I false sc (.call j k l) ast = true → PE X ast (TZ Φ.K Φ.T W (den C Φ.G (.call j k l))) ∧ plainT ast = true := fun h => by
      unfold okE at h
      split at h
      · simp only [Bool.and_eq_true, decide_eq_true_eq] at h
        obtain ⟨s1, s2⟩ := okEs_star h.2
        refine ⟨?_, rfl⟩
        unfold den
        exact call_z F a h.1.1.1.1 h.1.1.1.2 h.1.1.2 h.1.2 s1 s2 (args_z a (goods F l) h.2)
      · cases h
    exact ⟨fun h => (v h).1, fun h => pt_plain a (v (by unfold okE at h ⊢; exact h)).1 (v (by unfold okE at h ⊢; exact h)).2⟩
  | .callK j k n l p => fun X sc fn W a ast => by
    have v : okE N Φ.G Φ.I false sc (.callK j k n l p) ast = true → PE X ast (TZ Φ.K Φ.T W (den C Φ.G (.callK j k n l p))) ∧ plainT ast = true := fun h => by
      unfold okE at h
      split at h
      · simp only [Bool.and_eq_true, decide_eq_true_eq] at h
        obtain ⟨⟨⟨⟨⟨⟨⟨h1, h2⟩, h3⟩, h4⟩, h5⟩, h6⟩, _⟩, h8⟩ := h
        obtain ⟨s1, s2⟩ := okEs_star h8
        obtain ⟨a1, a2⟩ := okEs_app h8
        rw [List.all_append, Bool.and_eq_true] at s1
        rw [List.length_append, List.length_map] at s2
        refine ⟨?_, rfl⟩
        unfold den
        exact callK_z F a h1 h2 h3 h4 h5 h6 s1.1 s2 (args_z a (fun e he => goods F l e (List.mem_of_mem_take he)) a1) (kws_z a (fun e he => goods F l e (List.mem_of_mem_drop he)) a2)
      · cases h
    exact ⟨fun h => (v h).1, fun h => pt_plain a (v (by unfold okE at h ⊢; exact h)).1 (v (by unfold okE at h ⊢; exact h)).2⟩
  | .bi b l => fun X sc fn W a ast => by
    have v : okE N Φ.G Φ.I false sc (.bi b l) ast = true → PE X ast (TZ Φ.K Φ.T W (den C Φ.G (.bi b l))) ∧ plainT ast = true := fun h => by
      unfold okE at h
      split at h
      · simp only [Bool.and_eq_true] at h
        refine ⟨?_, rfl⟩
        unfold den
        exact bi_ok F a (eq_of_beq h.1.1.1) h.1.1.2 h.1.2 (okEs_star h.2).1 (args_z a (goods F l) h.2)
      · cases h
    exact ⟨fun h => (v h).1, fun h => pt_plain a (v (by unfold okE at h ⊢; exact h)).1 (v (by unfold okE at h ⊢; exact h)).2⟩
  | .me b o l => fun X sc fn W a ast => by
    have v : okE N Φ.G Φ.I false sc (.me b o l) ast = true → PE X ast (TZ Φ.K Φ.T W (den C Φ.G (.me b o l))) ∧ plainT ast = true := fun h => by
      unfold okE at h
      split at h
      · simp only [Bool.and_eq_true, decide_eq_true_eq] at h
        obtain ⟨⟨⟨⟨⟨⟨h1, h2⟩, h3⟩, h4⟩, h5⟩, h6⟩, h7⟩ := h
        obtain ⟨s1, s2⟩ := okEs_star h7
        refine ⟨?_, rfl⟩
        unfold den
        refine me_ok a (eq_of_beq h3) h4 h5 s1 s2 h1 (fun e => ?_) (fun e => ?_) ((good F o X sc fn W a _).1 h6) (args_z a (goods F l) h7)
        · rcases e with e | e <;> (rw [e] at h2; simpa using h2)
        · rcases e with e | e <;> (rw [e] at h2; simpa using h2)
      · cases h
    exact ⟨fun h => (v h).1, fun h => pt_plain a (v (by unfold okE at h ⊢; exact h)).1 (v (by unfold okE at h ⊢; exact h)).2⟩
  | .comp m e tg it src ifs => fun X sc fn W a ast => by
    refine ⟨fun h => ?_, fun h => ?_⟩
    · unfold okE at h
      split at h
      · rename_i x y iter ts isA scope pos
        simp only [Bool.and_eq_true, decide_eq_true_eq] at h
        obtain ⟨⟨⟨⟨⟨⟨⟨_, hA⟩, h2⟩, h3⟩, h4⟩, h5⟩, h6⟩, h7⟩ := h
        subst hA
        have hb : BlkOk X.N X.env.scope scope (ownN N tg.own) := by
          rw [a.eN, a.es]
          exact blkOk_by h3
        have hN : X.N.Nodup := by
          rw [a.eN]
          exact a.nd
        have w := walk_ok F a (tg := y) (goods F src) h7
        refine PE.imp (pe_lc (tt := TB Φ.K Φ.T WN (denT C Φ.G ifs)) a.calm hN w hb (fun s H D cl fp => sTg (a.blk s H scope cl D fp) tg y h4) (fun s H D cl fp => ?_) (fun s H D cl fp => (good F e _ _ _ _ (a.blk s H scope cl D fp) x).1 h5) (set_of h2)) fun σ H Q q => ?_
        · have b := a.blk s H scope cl D fp
          cases ifs with
          | nil =>
            have e0 : ts = [] := by
              unfold okIfs at h6
              simpa using h6
            subst e0
            refine ⟨fun pins s σ H Q I h => pts_nil.run pins s σ H Q I ?_⟩
            unfold denT at h
            obtain ⟨g, M, η, S, L, h⟩ := h
            exact h g H (Le.refl _) S
          | cons c r =>
            unfold okIfs at h6
            split at h6
            · rename_i z
              have q := ((good F c _ _ _ _ b z).2 h6).1
              refine ⟨fun pins s σ H Q I h => (pts_one q).run pins s σ H Q I ?_⟩
              unfold denT at h
              exact h
            · cases h6
        · rw [ownN_ix]
          unfold den at q
          exact z_comp q
      · cases h
    · unfold okE at h
      split at h
      · simp at h
      · cases h
theorem goods (F : Φ.Ok) : ∀ l : List E, ∀ e ∈ l, Good Φ C d N e
  | [], _, h => nomatch h
  | x :: r, e, h => (List.mem_cons.mp h).elim (fun q => q ▸ good F x) (goods F r e)
end
end
end ZM
end
section
/-! ZM, part Q: statements. -/
namespace ZM
open PySem L2 PyProof.Rows

/-! ### the check -/
def lcl (sc : Scope) (x : Str) : Bool := sc.names.lookup x == some .local
theorem lcl_of {sc : Scope} {x : Str} (h : lcl sc x = true) : sc.names.lookup x = some .local := eq_of_beq h
/-- the value's last name and the target's store change places -/
def swB (sc : Scope) (e tg : Expr) : Bool := match e with
  | .ListComp _ _ s p => match tg with
    | .Name y py => lcl sc y && ((py.line == p.line) && !(s.names.any fun q => q.1 == y && (q.2 == .local || q.2 == .cell)))
    | _ => false
  | .SetComp .. => true
  | .DictComp .. => true
  | _ => false
def strd : Expr → Bool
  | .Starred .. => true
  | _ => false
/-- the stores of a display into names do not change places, for sure -/
def parB (sc : Scope) (tg e : Expr) : Bool := match tg, e with
  | .Tuple ts _ _, .Tuple vs _ _ => (!(ts.length == 2 || ts.length == 3)) || (vs.length != ts.length) || ((ts.filterMap fun t => match t with
    | .Name id pos => if lcl sc id && pos.line == (ts.head?.map (·.pos.line)).getD 0 then some id else none
    | _ => none).length != ts.length) || (vs.all (foldedForSure 8))
  | .List .., _ => false
  | _, _ => true
def notComp : Expr → Bool
  | .ListComp .. => false
  | .SetComp .. => false
  | .DictComp .. => false
  | _ => true
section
variable (N : List Str) (G : Glb) (I : Nat → FnI)
def nmB (i : Nat) (x : Str) : Bool := decide (N[i]? = some x)
def okPar (sc : Scope) (is : List Nat) (tg e : Expr) : Bool := match is, tg, e with
  | [i, j], .Tuple [.Name x px, .Name y py] _ _, .Tuple [a, b] _ _ => lcl sc x && lcl sc y && nmB N i x && nmB N j y && decide (i ≠ j) && (px.line == py.line) && decide (([x, y] : List Str).eraseDups.length = 2) && !strd a && !strd b && !([a, b].all (foldedForSure 8)) && !([a, b].all (constantsAlone 8))
  | [i, j, k], .Tuple [.Name x px, .Name y py, .Name z pz] _ _, .Tuple [a, b, c] _ _ => lcl sc x && lcl sc y && lcl sc z && nmB N i x && nmB N j y && nmB N k z && decide (i ≠ j) && decide (i ≠ k) && decide (j ≠ k) && (px.line == py.line) && (px.line == pz.line) && decide (([x, y, z] : List Str).eraseDups.length = 3) && !strd a && !strd b && !strd c && !([a, b, c].all (foldedForSure 8)) && !([a, b, c].all (constantsAlone 8))
  | _, _, _ => false
/-- what a for walks -/
def okW (sc : Scope) (it : It) (iter tg : Expr) (src : List E) : Bool :=
  match it, iter with
  | .list, z => okEs N G I sc src [z]
  | .tup, z => okEs N G I sc src [z]
  | .range1, .Call (.Name f _) [u] [] _ => f == ("range" : Str) && gBlt G f && globB sc f && okEs N G I sc src [u]
  | .range2, .Call (.Name f _) [u, v] [] _ => f == ("range" : Str) && gBlt G f && globB sc f && okEs N G I sc src [u, v]
  | .enum, .Call (.Name f _) [u] [] _ => f == ("enumerate" : Str) && gBlt G f && globB sc f && okEs N G I sc src [u] && isTup tg
  | .zip, .Call (.Name f _) [u, v] [] _ => f == ("zip" : Str) && gBlt G f && globB sc f && okEs N G I sc src [u, v] && isTup tg
  | _, _ => false
mutual
def okS (sc : Scope) (fn : Str → Bool) : S → Stmt → Bool
  | .pass, a => match a with
    | .Pass _ => true
    | .Expr (.Constant (.str _) _ _) _ => true
    | _ => false
  | .brk, a => match a with
    | .Break _ => true
    | _ => false
  | .cnt, a => match a with
    | .Continue _ => true
    | _ => false
  | .ret e, a => match a with
    | .Return (some x) _ => okE N G I false sc e x
    | _ => false
  | .retN, a => match a with
    | .Return none _ => true
    | _ => false
  | .ex e, a => match a with
    | .Expr x _ => notComp x && okE N G I false sc e x
    | _ => false
  | .asg t e, a => match a with
    | .Assign [tg] x p => !strd tg && okTg N sc fn t tg && okE N G I false sc e x && parB sc tg x && (if swB sc x tg then (match t, e, tg, x with
      | .name _, .comp .., .Name y py, .ListComp _ _ s q => lcl sc y && (py.line == q.line) && !(s.names.any fun r => r.1 == y && (r.2 == .local || r.2 == .cell)) && notComp tg
      | _, _, _, _ => false) else true)
    | _ => false
  | .par is es, a => match a with
    | .Assign [tg] (.Tuple xs k q) _ => okPar N sc is tg (.Tuple xs k q) && okEs N G I sc es xs
    | _ => false
  | .setIx o i e, a => match a with
    | .Assign [.Subscript x y _] z _ => notSlice y && notComp z && okE N G I false sc o x && okE N G I false sc i y && okE N G I false sc e z
    | _ => false
  | .ife c l r, a => match a with
    | .If x u v _ => okE N G I true sc c x && okSs sc fn l u && okSs sc fn r v
    | _ => false
  | .for_ tg it src b, a => match a with
    | .For y iter u [] _ => notSet iter && okTg N sc fn tg y && okW N G I sc it iter y src && okSs sc fn b u
    | _ => false
  | .whl c b, a => match a with
    | .While x u [] _ => okE N G I true sc c x && okSs sc fn b u
    | _ => false
  | .nev, _ => true
def okSs (sc : Scope) (fn : Str → Bool) : List S → List Stmt → Bool
  | [], a => a.isEmpty
  | s :: r, a => match a with
    | x :: u => okS sc fn s x && okSs sc fn r u
    | [] => false
end
end

/-! ### readings -/
section
variable (K : PySem.W.Frag) (T : Tab)
def FinF (g : Gh) (D : Ends) : Fl → Mem → Prop := fun fl M' => ∀ (g' : Gh) (H' : Hp), Le g g' → Sim K T g' M' H' → match fl with
  | .nx η => ∀ σ', Slots K T g' η σ' → D.nx σ' H'
  | .bk η => ∀ σ', Slots K T g' η σ' → D.bk σ' H'
  | .ct η => ∀ σ', Slots K T g' η σ' → D.ct σ' H'
  | .rt z => ∀ v, RelZ K T g' z v → D.rt v H'
def TSz (W : XK) (z : ZS) : TS := fun D σ H => ∃ (g : Gh) (M : Mem) (η : Sl), Sim K T g M H ∧ Slots K T g η σ ∧ (z η M).To (FinF K T g D) (Out K T W g)
end
section
variable {K : PySem.W.Frag} {T : Tab} {g g1 g' : Gh} {η : Sl} {σ : St} {W : XK} {X : Cx} {D : Ends} {H : Hp}
theorem PS.imp {s : Stmt} {t t' : TS} (h : PS X s t) (i : ∀ D σ H, t' D σ H → t D σ H) : PS X s t' := ⟨fun pins s σ H D I q => h.run pins s σ H D I (i D σ H q)⟩
theorem PSs.imp {s : List Stmt} {t t' : TS} (h : PSs X s t) (i : ∀ D σ H, t' D σ H → t D σ H) : PSs X s t' := ⟨fun pins s σ H D I q => h.run pins s σ H D I (i D σ H q)⟩
theorem FinF.le {a : Fl} {M : Mem} (h : FinF K T g D a M) (e : Le g g1) : FinF K T g1 D a M := fun g' H' e' => h g' H' (e.trans e')
theorem ToF.le {r : Res Fl} (h : r.To (FinF K T g D) (Out K T W g)) (e : Le g g1) : r.To (FinF K T g1 D) (Out K T W g1) := h.imp (fun _ _ q => q.le e) (fun _ _ _ q => q.le e)
theorem TZ.goS {z : ZE} {k : Sl → Z → Mem → Res Fl} {Q : VK}
    (h : TSz K T W (fun η M => (z η M).bind (k η)) D σ H)
    (c : ∀ (g1 : Gh) (M1 : Mem) (η : Sl) (H1 : Hp) (a : Z) (v : V), Sim K T g1 M1 H1 → Slots K T g1 η σ → RelZ K T g1 a v → (k η a M1).To (FinF K T g1 D) (Out K T W g1) → Q v H1) : TZ K T W z σ H Q := by
  obtain ⟨g, M, η, S, L, h⟩ := h
  refine ⟨g, M, η, S, L, h.bind.imp (fun a M1 h1 g1 H1 v e1 S1 r1 => ?_) fun _ _ _ q => q⟩
  exact c g1 M1 η H1 a v S1 (L.mono e1.toLeV) r1 (ToF.le h1 e1)
theorem TB.goS {z : ZT} {k : Sl → Bool → Mem → Res Fl} {Q : Bool → Hp → Prop}
    (h : TSz K T W (fun η M => (z η M).bind (k η)) D σ H)
    (c : ∀ (g1 : Gh) (M1 : Mem) (η : Sl) (H1 : Hp) (b : Bool), Sim K T g1 M1 H1 → Slots K T g1 η σ → (k η b M1).To (FinF K T g1 D) (Out K T W g1) → Q b H1) : TB K T W z σ H Q := by
  obtain ⟨g, M, η, S, L, h⟩ := h
  refine ⟨g, M, η, S, L, h.bind.imp (fun a M1 h1 g1 H1 e1 S1 => ?_) fun _ _ _ q => q⟩
  exact c g1 M1 η H1 a S1 (L.mono e1.toLeV) (ToF.le h1 e1)
theorem TL.goS {z : ZL} {k : Sl → List Z → Mem → Res Fl} {Q : List V → Hp → Prop}
    (h : TSz K T W (fun η M => (z η M).bind (k η)) D σ H)
    (c : ∀ (g1 : Gh) (M1 : Mem) (η : Sl) (H1 : Hp) (a : List Z) (v : List V), Sim K T g1 M1 H1 → Slots K T g1 η σ → RelZs K T g1 a v → (k η a M1).To (FinF K T g1 D) (Out K T W g1) → Q v H1) : TL K T W z σ H Q := by
  obtain ⟨g, M, η, S, L, h⟩ := h
  refine ⟨g, M, η, S, L, h.bind.imp (fun a M1 h1 g1 H1 v e1 S1 r1 => ?_) fun _ _ _ q => q⟩
  exact c g1 M1 η H1 a v S1 (L.mono e1.toLeV) r1 (ToF.le h1 e1)
theorem z_next (h : TSz K T W (fun η M => .ok (.nx η) M) D σ H) : tNext D σ H := by
  obtain ⟨g, M, η, S, L, h⟩ := h
  exact h g H (.refl g) S σ L
theorem z_break (h : TSz K T W (fun η M => .ok (.bk η) M) D σ H) : tBreak D σ H := by
  obtain ⟨g, M, η, S, L, h⟩ := h
  exact h g H (.refl g) S σ L
theorem z_cont (h : TSz K T W (fun η M => .ok (.ct η) M) D σ H) : tCont D σ H := by
  obtain ⟨g, M, η, S, L, h⟩ := h
  exact h g H (.refl g) S σ L
theorem z_retN (h : TSz K T W (fun _ M => .ok (.rt .non) M) D σ H) : tRetN D σ H := by
  obtain ⟨g, M, η, S, L, h⟩ := h
  exact h g H (.refl g) S _ rfl
theorem z_ret {z : ZE} (h : TSz K T W (fun η M => (z η M).bind fun z M1 => .ok (.rt z) M1) D σ H) : tRet (TZ K T W z) D σ H :=
  TZ.goS (k := fun _ z M1 => .ok (.rt z) M1) h fun g1 M1 η H1 a v S L r q => q g1 H1 (.refl _) S v r
theorem z_drop {z : ZE} (h : TSz K T W (fun η M => (z η M).bind fun _ M1 => .ok (.nx η) M1) D σ H) : tDrop (TZ K T W z) D σ H :=
  TZ.goS (k := fun η _ M1 => .ok (.nx η) M1) h fun g1 M1 η H1 a v S L r q => q g1 H1 (.refl _) S σ L
theorem z_asgQ {z : ZE} {t : Tg} {Q : VK} (h : TSz K T W (fun η M => (z η M).bind fun z M1 => match asg t z η with
    | some η1 => .ok (.nx η1) M1
    | none => .stuck) D σ H) (hq : ∀ v H1, TGt K T t v σ H1 D.nx → Q v H1) : TZ K T W z σ H Q := by
  refine TZ.goS (k := fun η z M1 => match asg t z η with
    | some η1 => .ok (.nx η1) M1
    | none => .stuck) h fun g1 M1 η H1 a v S L r q => hq v H1 ?_
  split at q
  · rename_i η1 e
    exact ⟨a, g1, M1, η, η1, S, L, r, e, fun σ' L' b => q g1 H1 (.refl _) S σ' L'⟩
  · exact q.elim
theorem z_asg {z : ZE} {t : Tg} (h : TSz K T W (fun η M => (z η M).bind fun z M1 => match asg t z η with
    | some η1 => .ok (.nx η1) M1
    | none => .stuck) D σ H) : tAsg (TZ K T W z) (TGt K T t) D σ H := z_asgQ h fun _ _ q => q
theorem z_seq {za zb : ZS} (h : TSz K T W (fun η M => (za η M).bind fun fl M1 => match fl with
    | .nx η1 => zb η1 M1
    | fl => .ok fl M1) D σ H) : tSeq (TSz K T W za) (TSz K T W zb) D σ H := by
  obtain ⟨g, M, η, S, L, h⟩ := h
  refine ⟨g, M, η, S, L, h.bind.imp (fun fl M1 h1 g1 H1 e1 S1 => ?_) fun _ _ _ q => q⟩
  cases fl with
  | nx η1 => exact fun σ' L' => ⟨g1, M1, η1, S1, L', ToF.le h1 e1⟩
  | rt z => exact h1 g1 H1 e1 S1
  | bk η1 => exact h1 g1 H1 e1 S1
  | ct η1 => exact h1 g1 H1 e1 S1
theorem z_ife {c : ZT} {za zb : ZS} (h : TSz K T W (fun η M => (c η M).bind fun k M1 => if k = true then za η M1 else zb η M1) D σ H) : tIfS (TB K T W c) (TSz K T W za) (TSz K T W zb) D σ H := by
  refine TB.goS (k := fun η k M1 => if k = true then za η M1 else zb η M1) h fun g1 M1 η H1 b S L q => ?_
  cases b with
  | true => exact ⟨g1, M1, η, S, L, q⟩
  | false => exact ⟨g1, M1, η, S, L, q⟩
theorem z_setIx {ze zo zi : ZE} (h : TSz K T W (fun η M => (ze η M).bind fun z M1 => (zo η M1).bind fun x M2 => (zi η M2).bind fun y M3 => match x, y with
    | .ref n, .int k => match M3[n]? with
      | some (.lst l) => match ixN l.length k with
        | some j => .ok (.nx η) (M3.set n (.lst (l.set j z)))
        | none => .stuck
      | _ => .stuck
    | _, _ => .stuck) D σ H) : tAsg (TZ K T W ze) (gSub (TZ K T W zo) (TZ K T W zi) rSetL) D σ H := by
  refine TZ.goS (k := fun η z M1 => (zo η M1).bind fun x M2 => (zi η M2).bind fun y M3 => match x, y with
    | .ref n, .int k => match M3[n]? with
      | some (.lst l) => match ixN l.length k with
        | some j => .ok (.nx η) (M3.set n (.lst (l.set j z)))
        | none => .stuck
      | _ => .stuck
    | _, _ => .stuck) h fun g1 M1 η H1 z v S1 L1 r1 h1 => ?_
  refine ⟨g1, M1, η, S1, L1, h1.bind.imp (fun x M2 h2 g2 H2 o e2 S2 r2 => ?_) fun _ _ _ q => q⟩
  refine ⟨g2, M2, η, S2, L1.mono e2.toLeV, (ToF.le h2 e2).bind.imp (fun y M3 h3 g3 H3 i e3 S3 r3 => ?_) fun _ _ _ q => q⟩
  split at h3
  · rename_i n k
    split at h3
    · rename_i l el
      split at h3
      · rename_i j ej
        obtain ⟨p, rfl, hp⟩ := r2
        obtain ⟨a, vs, q1, q2, q3, q4⟩ := S3.get el
        have hp' := e3.ad _ _ hp
        rw [hp'] at q1
        cases q1
        cases (show i = V.int k from r3)
        have rz : RelZ K T g3 z v := (r1.mono e2.toLeV).mono e3.toLeV
        refine ⟨p, vs, k, j, rfl, rfl, q3, by rw [q4.length]; exact ej, ?_⟩
        exact h3 g3 _ e3 (S3.put el hp' (q4.set rz j)) σ ((L1.mono e2.toLeV).mono e3.toLeV)
      · exact h3.elim
    · exact h3.elim
  · exact h3.elim
/-- A FOR -/
theorem z_for {b : ZS} {tg : Tg} {it : It} {src : ZL}
    (h : TSz K T W (fun η M => (src η M).bind fun zs M1 => match itemsZ it zs with
      | none => .stuck
      | some l => forZ tg b l η M1) D σ H) : tFor (TIz K T W it src) (TGt K T tg) (TSz K T W b) D σ H := by
  obtain ⟨g, M, η, S, L, h⟩ := h
  refine ⟨g, M, η, S, L, h.bind.imp (fun zs M1 h1 => ?_) fun _ _ _ q => q⟩
  split at h1
  · exact h1.elim
  rename_i l el
  refine ⟨l, el, fun g1 H1 J e1 S1 wk => ?_⟩
  refine ⟨fun i n σ' H' => n = l.length - i ∧ i ≤ l.length ∧ ∃ (g2 : Gh) (M2 : Mem) (η2 : Sl), Le g1 g2 ∧ Sim K T g2 M2 H' ∧ Slots K T g2 η2 σ' ∧ (forZ tg b (l.drop i) η2 M2).To (FinF K T g2 D) (Out K T W g2),
    ⟨l.length, rfl, Nat.zero_le _, g1, M1, η, .refl _, S1, L.mono e1.toLeV, by rw [List.drop_zero]; exact ToF.le h1 e1⟩, ?_⟩
  rintro i n σ' H' ⟨rfl, hi, g2, M2, η2, e2, S2, L2, hq⟩
  obtain ⟨w1, w2⟩ := wk g2 M2 H' i e2.toLeV S2
  by_cases hlt : i < l.length
  · obtain ⟨z, hz⟩ : ∃ z, l[i]? = some z := ⟨_, List.getElem?_eq_getElem hlt⟩
    obtain ⟨go, yl⟩ := w1 z hz
    rw [List.drop_eq_getElem_cons hlt] at hq
    have ez : l[i] = z := by
      have q := List.getElem?_eq_getElem hlt
      rw [hz] at q
      exact (Option.some.inj q).symm
    rw [ez] at hq
    refine .inr ⟨go, fun σ'' H'' => ∃ (g3 : Gh) (M3 : Mem) (η3 : Sl), Le g1 g3 ∧ Sim K T g3 M3 H'' ∧ Slots K T g3 η3 σ'' ∧ (forZ tg b (l.drop (i + 1)) η3 M3).To (FinF K T g3 D) (Out K T W g3),
      fun σ'' H'' q => ⟨l.length - (i + 1), by omega, rfl, hlt, q⟩, fun x H'' y => ?_⟩
    obtain ⟨g3, e3, S3, rz⟩ := yl x H'' y
    unfold forZ at hq
    cases ha : asg tg z η2 with
    | none =>
      rw [ha] at hq
      exact hq.elim
    | some η3 =>
      rw [ha] at hq
      dsimp only at hq
      refine ⟨z, g3, M2, η2, η3, S3, L2.mono e3.toLeV, rz, ha, fun σ3 L3 _ => ?_⟩
      refine ⟨g3, M2, η3, S3, L3, (ToF.le hq e3).bind.imp (fun fl M3 h3 g4 H4 e4 S4 => ?_) fun _ _ _ q => q⟩
      cases fl with
      | nx η4 => exact fun σ4 L4 => ⟨g4, M3, η4, (e2.trans e3).trans e4, S4, L4, ToF.le h3 e4⟩
      | ct η4 => exact fun σ4 L4 => ⟨g4, M3, η4, (e2.trans e3).trans e4, S4, L4, ToF.le h3 e4⟩
      | bk η4 => exact h3 g4 H4 e4 S4
      | rt z => exact h3 g4 H4 e4 S4
  · have ei : i = l.length := by omega
    subst ei
    rw [List.drop_length] at hq
    exact .inl ⟨w2 (Nat.le_refl _), hq g2 H' (.refl _) S2 σ' L2⟩
/-- A WHILE -/
theorem z_whl {b : ZS} {c : ZT} {n : Nat} (h : TSz K T W (whlZ c b n) D σ H) : tWhile (TB K T W c) (TSz K T W b) D σ H := by
  obtain ⟨g, M, η, S, L, h⟩ := h
  refine ⟨fun m σ' H' => ∃ (g2 : Gh) (M2 : Mem) (η2 : Sl), Sim K T g2 M2 H' ∧ Slots K T g2 η2 σ' ∧ (whlZ c b m η2 M2).To (FinF K T g2 D) (Out K T W g2), ⟨n, g, M, η, S, L, h⟩, ?_⟩
  rintro m σ' H' ⟨g2, M2, η2, S2, L2, hq⟩
  cases m with
  | zero => exact hq.elim
  | succ m =>
    unfold whlZ at hq
    refine ⟨g2, M2, η2, S2, L2, hq.bind.imp (fun t M3 h3 g3 H3 e3 S3 => ?_) fun _ _ _ q => q⟩
    cases t with
    | true =>
      rw [if_pos rfl] at h3 ⊢
      refine ⟨fun σ'' H'' => ∃ (g2 : Gh) (M2 : Mem) (η2 : Sl), Sim K T g2 M2 H'' ∧ Slots K T g2 η2 σ'' ∧ (whlZ c b m η2 M2).To (FinF K T g2 D) (Out K T W g2), fun σ'' H'' q => ⟨m, Nat.lt_succ_self m, q⟩, ?_⟩
      refine ⟨g3, M3, η2, S3, L2.mono e3.toLeV, (ToF.le h3 e3).bind.imp (fun fl M4 h4 g4 H4 e4 S4 => ?_) fun _ _ _ q => q⟩
      cases fl with
      | nx η4 => exact fun σ4 L4 => ⟨g4, M4, η4, S4, L4, ToF.le h4 e4⟩
      | ct η4 => exact fun σ4 L4 => ⟨g4, M4, η4, S4, L4, ToF.le h4 e4⟩
      | bk η4 => exact h4 g4 H4 e4 S4
      | rt z => exact h4 g4 H4 e4 S4
    | false =>
      rw [if_neg Bool.false_ne_true] at h3 ⊢
      exact h3 g3 H3 e3 S3 σ' (L2.mono e3.toLeV)
end
end ZM
end
section
/-! ZM, part R: THE THEOREM of statements. -/
namespace ZM
open PySem L2 PyProof.Rows
section
variable {Φ : Fix} {C : Calls} {d : Nat} {N : List Str} {X : Cx} {sc : Scope} {fn : Str → Bool} {W : XK}
theorem sole_of {e tg : Expr} {l : Nat} (es : X.env.scope = sc) (h : swB sc e tg = false) : swapsWithSole [tg] e l X.env = pure false := by
  show swapsWith e (some tg) l X.env = pure false
  subst es
  unfold swB at h
  cases e <;> first | (cases h; done) | rfl | skip
  rename_i x gs s p
  cases tg <;> first | rfl | skip
  rename_i y py
  have ky : X.env.kindOf y = X.env.scope.names.lookup y := rfl
  unfold swapsWith
  dsimp only
  rw [ky]
  rw [Bool.and_assoc, Bool.and_assoc]
  exact congrArg pure ((congrArg (fun b => X.env.blockKind == .function && b) h).trans (Bool.and_false _))
theorem drop_of {e : Expr} {l : Nat} (h : notComp e = true) : swapsWith e none l X.env = pure false := by
  cases e <;> first | (cases h; done) | rfl
theorem sub_of {e o i : Expr} {p : Pos} {l : Nat} (h : notComp e = true) : swapsWithSole [.Subscript o i p] e l X.env = pure false := by
  cases e <;> first | (cases h; done) | rfl
theorem each1_of {tg : Expr} {env : Env} (h : strd tg = false) : (assignEach [tg] env).map (·.2) = [assign tg env] := by
  cases tg <;> first | (cases h; done) | rfl
theorem stores_of {tg e : Expr} (es : X.env.scope = sc) (h : parB sc tg e = true) : swappedStores [tg] e X.env = pure none := by
  subst es
  unfold parB at h
  cases tg <;> first | (cases h; done) | (cases e <;> rfl) | skip
  cases e <;> first | rfl | skip
  rename_i ts k p vs k' p'
  unfold swappedStores
  dsimp only at h ⊢
  simp only [Bool.or_eq_true] at h
  split
  · rfl
  rename_i c1
  split
  · rfl
  split
  · rfl
  rename_i c3
  rcases h with ((h | h) | h) | h
  · exact absurd (by simp only [Bool.or_eq_true]; exact .inl (.inl h)) c1
  · exact absurd (by simp only [Bool.or_eq_true]; exact .inl (.inr h)) c1
  · exact absurd (by rw [Bool.or_eq_true]; exact .inl h) c3
  · rw [if_pos h]
theorem fn_kind {env : Env} (h : env.scope.kind = .function) : env.blockKind = .function := by
  unfold Env.blockKind
  rw [h]
  rfl
theorem strd_any : ∀ {vs : List Expr}, vs.any strd = false → (vs.any fun | .Starred .. => true | _ => false) = false
  | [], _ => rfl
  | v :: r, h => by
    rw [List.any_cons, Bool.or_eq_false_iff] at h
    rw [List.any_cons, strd_any h.2, Bool.or_false]
    cases v <;> first | rfl | exact h.1
theorem swap_of {ts vs : List Expr} {xs : List Str} {k k2 : Nat} {pt pt2 : Pos} (es : X.env.scope = sc) (hk : sc.kind = .function) (hl : (ts.length = 2 ∨ ts.length = 3) ∧ vs.length = ts.length) (hs : vs.any strd = false)
    (hf : (ts.filterMap fun | .Name id pos => if X.env.kindOf id == some .local && pos.line == (ts.head?.map (·.pos.line)).getD 0 then some id else none | _ => none) = xs) (hx : xs.length = ts.length) (hd : xs.eraseDups.length = xs.length)
    (h1 : vs.all (foldedForSure 8) = false) (h2 : vs.all (constantsAlone 8) = false) : swappedStores [.Tuple ts k pt] (.Tuple vs k2 pt2) X.env = pure (some xs) := by
  subst es
  unfold swappedStores
  dsimp only
  rw [if_neg (by rw [fn_kind hk, hl.2]; rcases hl.1 with e | e <;> (rw [e]; simp))]
  refine (if_neg (fun z => Bool.false_ne_true ((strd_any hs).symm.trans z))).trans ?_
  refine (if_neg (fun z => ?_)).trans ?_
  · have z' : (xs.length != ts.length || xs.eraseDups.length != xs.length) = true := by
      rw [← hf]
      exact z
    rw [hd, hx] at z'
    simp at z'
  · refine (if_neg (by rw [h1]; decide)).trans ?_
    refine (if_neg (by rw [h2]; decide)).trans ?_
    exact congrArg (fun q => (pure (some q) : Sem _)) hf
theorem z_par2 {K : PySem.W.Frag} {T : Tab} {i j : Nat} {D : Ends} {σ : St} {H : Hp} {z : ZL} (h : TSz K T W (fun η M => (z η M).bind fun zs M1 => match asgs ([i, j].map .name) zs η with
    | some η1 => .ok (.nx η1) M1
    | none => .stuck) D σ H) : tPar i j (TL K T W z) D σ H := by
  refine TL.goS (k := fun η zs M1 => match asgs ([i, j].map .name) zs η with
    | some η1 => .ok (.nx η1) M1
    | none => .stuck) h fun g1 M1 η H1 zs vs S L r q => ?_
  split at q
  · rename_i η1 e
    have hl := asgs_len e
    match zs, hl with
    | [a, b], _ =>
      obtain ⟨v, ws, rfl, ra, r⟩ := r
      obtain ⟨w, ws, rfl, rb, r⟩ := r
      cases r
      refine ⟨v, w, rfl, q g1 H1 (.refl _) S _ ?_⟩
      simp only [List.map_cons, List.map_nil, asgs, asg] at e
      split at e
      · rename_i η2 e2
        split at e2
        · cases e2
          split at e
          · rename_i η3 e3
            split at e3
            · cases e3
              cases e
              exact (L.set ra).set rb
            · cases e3
          · cases e
        · cases e2
      · cases e
  · exact q.elim
theorem z_par3 {K : PySem.W.Frag} {T : Tab} {i j l : Nat} {D : Ends} {σ : St} {H : Hp} {z : ZL} (h : TSz K T W (fun η M => (z η M).bind fun zs M1 => match asgs ([i, j, l].map .name) zs η with
    | some η1 => .ok (.nx η1) M1
    | none => .stuck) D σ H) : tPar3 i j l (TL K T W z) D σ H := by
  refine TL.goS (k := fun η zs M1 => match asgs ([i, j, l].map .name) zs η with
    | some η1 => .ok (.nx η1) M1
    | none => .stuck) h fun g1 M1 η H1 zs vs S L r q => ?_
  split at q
  · rename_i η1 e
    have hl := asgs_len e
    match zs, hl with
    | [a, b, c], _ =>
      obtain ⟨v, ws, rfl, ra, r⟩ := r
      obtain ⟨w, ws, rfl, rb, r⟩ := r
      obtain ⟨y, ws, rfl, rc, r⟩ := r
      cases r
      refine ⟨v, w, y, rfl, q g1 H1 (.refl _) S _ ?_⟩
      simp only [List.map_cons, List.map_nil, asgs, asg] at e
      split at e
      · rename_i η2 e2
        split at e2
        · cases e2
          split at e
          · rename_i η3 e3
            split at e3
            · cases e3
              split at e
              · rename_i η4 e4
                split at e4
                · cases e4
                  cases e
                  exact ((L.set ra).set rb).set rc
                · cases e4
              · cases e
            · cases e3
          · cases e
        · cases e2
      · cases e
  · exact q.elim
end
end ZM
end
section
/-! ZM, part S: THE THEOREM of statements. -/
namespace ZM
open PySem L2 PyProof.Rows
section
variable {Φ : Fix} {C : Calls} {d : Nat} {N : List Str} {X : Cx} {sc : Scope} {fn : Str → Bool} {W : XK}
theorem comp_parts (F : Φ.Ok) (a : At Φ C d N X sc fn W) {m : Bool} {e : E} {tg : Tg} {it : It} {src ifs : List E} {x : Expr} {gs : List Comprehension} {scope : Scope} {pos : Pos} (h : okE N Φ.G Φ.I false sc (.comp m e tg it src ifs) (.ListComp x gs scope pos) = true) :
    ∃ y iter ts, gs = [⟨y, iter, ts, 0⟩] ∧ PI X y iter (TIz Φ.K Φ.T W it (dens C Φ.G src)) ∧ BlkOk X.N X.env.scope scope (ownN N tg.own) ∧
      (∀ (s : Shared) (H : Hp) (D : Addr) (cl : List (Str × Addr)) (fp : List Addr), PG (X.blk s H scope (compEnvC scope cl D X.env) fp) y (TGt Φ.K Φ.T tg)) ∧
      (∀ (s : Shared) (H : Hp) (D : Addr) (cl : List (Str × Addr)) (fp : List Addr), PTs (X.blk s H scope (compEnvC scope cl D X.env) fp) ts (TB Φ.K Φ.T WN (denT C Φ.G ifs))) ∧
      (∀ (s : Shared) (H : Hp) (D : Addr) (cl : List (Str × Addr)) (fp : List Addr), PE (X.blk s H scope (compEnvC scope cl D X.env) fp) x (TZ Φ.K Φ.T WN (den C Φ.G e))) ∧ (∀ x, foldedSetIterable iter X.env x = pure x) := by
  unfold okE at h
  split at h
  · rename_i x' y iter ts isA scope' pos' he
    injection he with e1 e2 e3 e4
    subst e1 e2 e3 e4
    simp only [Bool.and_eq_true, decide_eq_true_eq] at h
    obtain ⟨⟨⟨⟨⟨⟨⟨_, hA⟩, h2⟩, h3⟩, h4⟩, h5⟩, h6⟩, h7⟩ := h
    subst hA
    have hb : BlkOk X.N X.env.scope scope (ownN N tg.own) := by
      rw [a.eN, a.es]
      exact blkOk_by h3
    refine ⟨y, iter, ts, rfl, walk_ok F a (tg := y) (goods F src) h7, hb, fun s H D cl fp => sTg (a.blk s H scope cl D fp) tg y h4, fun s H D cl fp => ?_, fun s H D cl fp => (good F e _ _ _ _ (a.blk s H scope cl D fp) _).1 h5, set_of h2⟩
    have b := a.blk s H scope cl D fp
    cases ifs with
    | nil =>
      have e0 : ts = [] := by
        unfold okIfs at h6
        simpa using h6
      subst e0
      refine ⟨fun pins s σ H Q I h => pts_nil.run pins s σ H Q I ?_⟩
      unfold denT at h
      obtain ⟨g, M, η, S, L, h⟩ := h
      exact h g H (Le.refl _) S
    | cons c r =>
      unfold okIfs at h6
      split at h6
      · rename_i z
        have q := ((good F c _ _ _ _ b z).2 h6).1
        refine ⟨fun pins s σ H Q I h => (pts_one q).run pins s σ H Q I ?_⟩
        unfold denT at h
        exact h
      · cases h6
  · cases h
variable (Φ C d N) in
def GoodS (z : S) : Prop := ∀ (X : Cx) (sc : Scope) (fn : Str → Bool) (W : XK), sc.kind = .function → At Φ C d N X sc fn W → PassesOwn (model X.prog X.w) X.A X.env X.xe → ∀ st : Stmt,
  okS N Φ.G Φ.I sc fn z st = true → PS X st (TSz Φ.K Φ.T W (run C Φ.G z))
variable (Φ C d N) in
def GoodSs (z : List S) : Prop := ∀ (X : Cx) (sc : Scope) (fn : Str → Bool) (W : XK), sc.kind = .function → At Φ C d N X sc fn W → PassesOwn (model X.prog X.w) X.A X.env X.xe → ∀ st : List Stmt,
  okSs N Φ.G Φ.I sc fn z st = true → PSs X st (TSz Φ.K Φ.T W (runs C Φ.G z))
theorem asg_ok (F : Φ.Ok) (hk : sc.kind = .function) (a : At Φ C d N X sc fn W) {t : Tg} {e : E} {tg x : Expr} {p : Pos} (h : okS N Φ.G Φ.I sc fn (.asg t e) (.Assign [tg] x p) = true) : PS X (.Assign [tg] x p) (TSz Φ.K Φ.T W (run C Φ.G (.asg t e))) := by
  unfold okS at h
  simp only [Bool.and_eq_true, Bool.not_eq_true'] at h
  obtain ⟨⟨⟨⟨h1, h2⟩, h3⟩, h4⟩, h5⟩ := h
  have hN : X.N.Nodup := by
    rw [a.eN]
    exact a.nd
  cases hs : swB sc x tg with
  | false =>
    refine PS.imp (ps_asg ((good F e X sc fn W a x).1 h3) (sTg a t tg h2) (sole_of a.es hs) (stores_of a.es h4) (each1_of h1)) fun D σ H q => ?_
    unfold run at q
    exact z_asg q
  | true =>
    rw [hs, if_pos rfl] at h5
    split at h5
    · rename_i i m e' tg' it src ifs y py el gs s q
      simp only [Bool.and_eq_true, Bool.not_eq_true'] at h5
      obtain ⟨⟨⟨k1, k2⟩, k3⟩, _⟩ := h5
      obtain ⟨y', iter, ts, rfl, w1, w2, w3, w4, w5, w6⟩ := comp_parts F a h3
      have hyl : X.env.scope.names.lookup y = some .local := by
        rw [a.es]
        exact lcl_of k1
      have hy : X.N[i]? = some y := by
        unfold okTg at h2
        simp only [Bool.and_eq_true, decide_eq_true_eq] at h2
        rw [a.eN]
        exact h2.1
      refine PS.imp (ps_setLc a.calm hN hy hyl (sw_true (by rw [a.es]; exact hk) hyl k2 k3) w1 w2 w3 w4 w5 w6) fun D σ H q => ?_
      rw [ownN_ix]
      unfold run at q
      show tLc (TIz Φ.K Φ.T W it (dens C Φ.G src)) (TGt Φ.K Φ.T tg') (TB Φ.K Φ.T WN (denT C Φ.G ifs)) (TZ Φ.K Φ.T WN (den C Φ.G e')) tg'.own σ H (fun x H1 => gName i x σ H1 D.nx)
      have q' := z_asgQ (Q := fun x H1 => gName i x σ H1 D.nx) q fun v H1 r => z_name r
      unfold den at q'
      exact z_comp q'
    · cases h5
mutual
theorem goodS (F : Φ.Ok) : ∀ z : S, GoodS Φ C d N z
  | .pass => fun X sc fn W hk a hp st h => by
    unfold okS at h
    split at h
    · refine PS.imp ps_pass fun D σ H q => ?_
      unfold run at q
      exact z_next q
    · refine PS.imp ps_doc fun D σ H q => ?_
      unfold run at q
      exact z_next q
    · cases h
  | .brk => fun X sc fn W hk a hp st h => by
    unfold okS at h
    split at h
    · refine PS.imp ps_break fun D σ H q => ?_
      unfold run at q
      exact z_break q
    · cases h
  | .cnt => fun X sc fn W hk a hp st h => by
    unfold okS at h
    split at h
    · refine PS.imp ps_continue fun D σ H q => ?_
      unfold run at q
      exact z_cont q
    · cases h
  | .ret e => fun X sc fn W hk a hp st h => by
    unfold okS at h
    split at h
    · refine PS.imp (ps_ret ((good F e X sc fn W a _).1 h)) fun D σ H q => ?_
      unfold run at q
      exact z_ret q
    · cases h
  | .retN => fun X sc fn W hk a hp st h => by
    unfold okS at h
    split at h
    · refine PS.imp ps_retN fun D σ H q => ?_
      unfold run at q
      exact z_retN q
    · cases h
  | .ex e => fun X sc fn W hk a hp st h => by
    unfold okS at h
    split at h
    · simp only [Bool.and_eq_true] at h
      refine PS.imp (ps_expr ((good F e X sc fn W a _).1 h.2) (drop_of h.1)) fun D σ H q => ?_
      unfold run at q
      exact z_drop q
    · cases h
  | .asg t e => fun X sc fn W hk a hp st h => by
    have h' := h
    unfold okS at h'
    split at h'
    · exact asg_ok F hk a h
    · cases h'
  | .par is es => fun X sc fn W hk a hp st h => by
    have hN : X.N.Nodup := by
      rw [a.eN]
      exact a.nd
    unfold okS at h
    split at h
    · rename_i tg xs k p p'
      simp only [Bool.and_eq_true] at h
      have ha := args_z a (goods F es) h.2
      have h1 := h.1
      unfold okPar at h1
      split at h1
      · rename_i i j x px y py _ _ u v _ _ he
        injection he with he _ _
        subst he
        simp only [Bool.and_eq_true, Bool.not_eq_true', decide_eq_true_eq] at h1
        obtain ⟨⟨⟨⟨⟨⟨⟨⟨⟨⟨x1, y1⟩, x2⟩, y2⟩, ij⟩, hl⟩, hd⟩, s1⟩, s2⟩, f1⟩, f2⟩ := h1
        have lx : (X.env.kindOf x == some .local) = true := by
          show (X.env.scope.names.lookup x == some .local) = true
          rw [a.es]
          exact x1
        have ly : (X.env.kindOf y == some .local) = true := by
          show (X.env.scope.names.lookup y == some .local) = true
          rw [a.es]
          exact y1
        have el : (py.line == px.line) = true := by rw [eq_of_beq hl]; exact beq_self_eq_true _
        refine PS.imp (ps_par a.calm hN (by rw [a.eN]; exact of_decide_eq_true x2) (by rw [a.eN]; exact of_decide_eq_true y2) ij (by rw [a.es]; exact lcl_of x1) (by rw [a.es]; exact lcl_of y1) ha
          (swap_of a.es hk ⟨.inl rfl, rfl⟩ (by simp [s1, s2]) (by simp only [List.filterMap_cons, List.head?_cons, Option.map_some, Option.getD_some, Expr.pos, lx, ly, el, Bool.and_self, beq_self_eq_true, if_true, List.filterMap_nil]) rfl hd f1 f2) rfl) fun D σ H q => ?_
        unfold run at q
        exact z_par2 q
      · rename_i i j l x px y py z pz _ _ u v w _ _ he
        injection he with he _ _
        subst he
        simp only [Bool.and_eq_true, Bool.not_eq_true', decide_eq_true_eq] at h1
        obtain ⟨⟨⟨⟨⟨⟨⟨⟨⟨⟨⟨⟨⟨⟨⟨⟨x1, y1⟩, z1⟩, x2⟩, y2⟩, z2⟩, ij⟩, il⟩, jl⟩, hl⟩, hl2⟩, hd⟩, s1⟩, s2⟩, s3⟩, f1⟩, f2⟩ := h1
        have lx : (X.env.kindOf x == some .local) = true := by
          show (X.env.scope.names.lookup x == some .local) = true
          rw [a.es]
          exact x1
        have ly : (X.env.kindOf y == some .local) = true := by
          show (X.env.scope.names.lookup y == some .local) = true
          rw [a.es]
          exact y1
        have lz : (X.env.kindOf z == some .local) = true := by
          show (X.env.scope.names.lookup z == some .local) = true
          rw [a.es]
          exact z1
        have el : (py.line == px.line) = true := by rw [eq_of_beq hl]; exact beq_self_eq_true _
        have el2 : (pz.line == px.line) = true := by rw [eq_of_beq hl2]; exact beq_self_eq_true _
        refine PS.imp (ps_par3 a.calm hN (by rw [a.eN]; exact of_decide_eq_true x2) (by rw [a.eN]; exact of_decide_eq_true y2) (by rw [a.eN]; exact of_decide_eq_true z2) ij il jl (by rw [a.es]; exact lcl_of x1) (by rw [a.es]; exact lcl_of y1) (by rw [a.es]; exact lcl_of z1) ha
          (swap_of a.es hk ⟨.inr rfl, rfl⟩ (by simp [s1, s2, s3]) (by simp only [List.filterMap_cons, List.head?_cons, Option.map_some, Option.getD_some, Expr.pos, lx, ly, lz, el, el2, Bool.and_self, beq_self_eq_true, if_true, List.filterMap_nil]) rfl hd f1 f2) rfl) fun D σ H q => ?_
        unfold run at q
        exact z_par3 q
      · cases h1
    · cases h
  | .setIx o i e => fun X sc fn W hk a hp st h => by
    unfold okS at h
    split at h
    · simp only [Bool.and_eq_true] at h
      obtain ⟨⟨⟨⟨h1, h2⟩, h3⟩, h4⟩, h5⟩ := h
      refine PS.imp (ps_asg ((good F e X sc fn W a _).1 h5) (pg_sub ((good F o X sc fn W a _).1 h3) ((good F i X sc fn W a _).1 h4) set_list (fun v => ?_)) (sub_of h2) rfl rfl) fun D σ H q => ?_
      · rename_i x y p z p'
        cases y <;> first | (cases h1; done) | rfl
      · unfold run at q
        exact z_setIx q
    · cases h
  | .ife c l r => fun X sc fn W hk a hp st h => by
    unfold okS at h
    split at h
    · simp only [Bool.and_eq_true] at h
      refine PS.imp (ps_if ((good F c X sc fn W a _).2 h.1.1).1 (goodSs F l X sc fn W hk a hp _ h.1.2) (goodSs F r X sc fn W hk a hp _ h.2)) fun D σ H q => ?_
      unfold run at q
      exact z_ife q
    · cases h
  | .for_ tg it src b => fun X sc fn W hk a hp st h => by
    unfold okS at h
    split at h
    · simp only [Bool.and_eq_true] at h
      obtain ⟨⟨⟨h1, h2⟩, h3⟩, h4⟩ := h
      refine PS.imp (ps_for hp a.calm (walk_ok F a (goods F src) h3) (sTg a tg _ h2) (goodSs F b X sc fn W hk a hp _ h4) (set_of h1)) fun D σ H q => ?_
      unfold run at q
      exact z_for q
    · cases h
  | .whl c b => fun X sc fn W hk a hp st h => by
    unfold okS at h
    split at h
    · simp only [Bool.and_eq_true] at h
      refine PS.imp (ps_while hp ((good F c X sc fn W a _).2 h.1).1 (goodSs F b X sc fn W hk a hp _ h.2)) fun D σ H q => ?_
      unfold run at q
      exact z_whl q
    · cases h
  | .nev => fun X sc fn W hk a hp st h => by
    refine PS.imp ps_never fun D σ H q => ?_
    unfold run at q
    obtain ⟨_, _, _, _, _, q⟩ := q
    exact q
theorem goodSs (F : Φ.Ok) : ∀ z : List S, GoodSs Φ C d N z
  | [] => fun X sc fn W hk a hp st h => by
    unfold okSs at h
    cases st with
    | cons _ _ => simp at h
    | nil =>
      refine PSs.imp pss_nil fun D σ H q => ?_
      unfold runs at q
      exact z_next q
  | s :: r => fun X sc fn W hk a hp st h => by
    unfold okSs at h
    split at h
    · simp only [Bool.and_eq_true] at h
      refine PSs.imp (pss_cons (goodS F s X sc fn W hk a hp _ h.1) (goodSs F r X sc fn W hk a hp _ h.2)) fun D σ H q => ?_
      unfold runs at q
      exact z_seq q
    · cases h
end
end
end ZM
end
section
/-! ZM, part T: defs; the law's end. -/
namespace ZM
open PySem L2 PyProof.Rows

/-- a def of the machine: its names (parameters first), its body -/
structure Code where
  N : List Str
  b : List S
/-- the end of a body -/
def endZ (r : Res Fl) : Res Z := r.bind fun fl M => match fl with
  | .nx _ => .ok .non M
  | .rt z => .ok z M
  | _ => .stuck
def startZ (n : Nat) (zs : List Z) : Sl := zs.map some ++ List.replicate (n - zs.length) none
/-- calls, to a depth -/
def callZ (G : Glb) (code : Nat → Option Code) : Nat → Calls
  | 0 => fun _ _ _ => .stuck
  | d + 1 => fun k zs M => match code k with
    | some c => endZ (runs (callZ G code d) G c.b (startZ c.N.length zs) M)
    | none => .stuck
/-- a def of the text is that of the machine -/
structure DefIs (Φ : Fix) (k : Nat) (c : Code) : Prop where
  ex : ∃ (x : Str) (st : Stmt), L2.Fun Φ.K x x st (Φ.T.fn k) (Φ.fd k) ∧ FnScope c.N (Φ.I k).ps (defScope st) ∧ okSs c.N Φ.G Φ.I (defScope st) (fun _ => true) c.b (defBody st) = true
section
variable {Φ : Fix} {W : XK}
theorem start_slots {K : PySem.W.Frag} {T : Tab} {g : Gh} {zs : List Z} {vs : List V} {N : List Str} (r : RelZs K T g zs vs) : Slots K T g (startZ N.length zs) (L2.start N vs) := by
  have hl := r.length
  unfold startZ L2.start
  refine ⟨by rw [List.length_append, List.length_append, List.length_map, List.length_map, hl, List.length_replicate, List.length_replicate], fun i z h => ?_⟩
  by_cases hi : i < zs.length
  · rw [List.getElem?_append_left (by rw [List.length_map]; exact hi), List.getElem?_map] at h
    obtain ⟨w, h1, h2⟩ := Option.map_eq_some_iff.mp h
    cases h2
    obtain ⟨v, h3, h4⟩ := r.get h1
    refine ⟨v, ?_, h4⟩
    rw [List.getElem?_append_left (by rw [List.length_map, hl]; exact hi), List.getElem?_map, h3]
    rfl
  · rw [List.getElem?_append_right (by rw [List.length_map]; omega), List.getElem?_replicate] at h
    split at h <;> cases h
theorem fnZ_step (F : Φ.Ok) {code : Nat → Option Code} {d k : Nat} (hD : ∀ c, code k = some c → DefIs Φ k c) (ih : ∀ k, FnZ Φ (callZ Φ.G code d) d k) : FnZ Φ (callZ Φ.G code (d + 1)) (d + 1) k := by
  intro A outer s H args us vs zs g M Q E hr hg e0 hb r S rs hl h
  unfold callZ at h
  split at h
  · rename_i c hc
    obtain ⟨x, st, Fn, Sc, hk⟩ := (hD c hc).ex
    obtain ⟨P, w, K, mg, base, T, G, I, fd⟩ := Φ
    dsimp only at Fn Sc hk ih h S rs hl hb e0 F ⊢
    obtain ⟨oc, od, kV, doc, pm, an, cdv, ct, osl, efd, lk, hcd⟩ := Fn.ex
    rw [efd] at lk hb
    refine LamX.run_ofS lk hcd Sc hr e0 hb r (by rw [rs.length]; exact hl) fun hr' => ?_
    let X := cxOf (L2.CX P w) P w K mg base c.N x (defScope st) (T.fn k) cdv A outer s H E
    have tk : Takes X (fun cls d _ H => E cls d H) := takes_of rfl rfl rfl rfl
    have a : At (⟨P, w, K, mg, base, T, G, I, fd⟩ : Fix) (callZ G code d) d c.N X (defScope st) (fun _ => true) E :=
      ⟨rfl, rfl, rfl, rfl, rfl, rfl, rfl, Sc.nd, rfl, hr', hg, fun _ _ => rfl, passes_call tk fun _ _ _ _ h => h, ih⟩
    refine ⟨_, goodSs F c.b X (defScope st) (fun _ => true) E Sc.kind a (passes_of rfl) (defBody st) hk, ?_⟩
    refine ⟨g, M, startZ c.N.length zs, S, start_slots rs, h.bind.imp (fun fl M1 h1 => ?_) fun _ _ _ q => q⟩
    intro g1 H1 e1 S1
    cases fl with
    | nx η => exact fun σ' _ => h1 g1 H1 .non e1 S1 rfl
    | rt z => exact fun v rv => h1 g1 H1 v e1 S1 rv
    | bk η => exact h1.elim
    | ct η => exact h1.elim
  · exact h.elim
theorem fnZ_all (F : Φ.Ok) {code : Nat → Option Code} (hD : ∀ k c, code k = some c → DefIs Φ k c) : ∀ d k, FnZ Φ (callZ Φ.G code d) d k
  | 0, k => fun _ _ _ _ _ _ _ _ _ _ _ _ _ _ _ _ _ _ _ _ h => h.elim
  | d + 1, k => fnZ_step F (hD k) (fnZ_all F hD d)
end
end ZM
end
section
/-! ZM, part U: the law's end. -/
namespace ZM
open PySem L2 PyProof.Rows

/-- the script alone is known -/
def onlyAt (a : Addr) (u : HO) : Hp := fun b => if b = a then some u else none
theorem onlyAt_at {a : Addr} {u : HO} : onlyAt a u a = some u := if_pos rfl
theorem onlyAt_ne {a b : Addr} {u : HO} (h : b ≠ a) : onlyAt a u b = none := if_neg h
theorem onlyAt_of {a b : Addr} {u v : HO} (h : onlyAt a u b = some v) : b = a ∧ v = u := by
  by_cases e : b = a
  · subst e
    rw [onlyAt_at] at h
    exact ⟨rfl, (Option.some.inj h).symm⟩
  · rw [onlyAt_ne e] at h
    cases h
/-- nothing is known of any heap -/
theorem sim0 {K : PySem.W.Frag} {T : Tab} {H : Hp} : Sim K T ⟨H, [], []⟩ [] H :=
  ⟨fun _ _ h => h, fun n o h => by simp at h, fun n m o u a h => by simp at h, rfl, fun p hp => by simp at hp, List.Pairwise.nil⟩
section
variable {P : Program} {w : World} {K : PySem.W.Frag} {mg mb : Str → Option Value} {fa a : Addr} {S : Shared} {vs : List Value} {ns : List Int}
/-- what is wanted of the run -/
abbrev Wanted (S : Shared) : Result → Shared → Prop := fun r s' => r = .ok (.ret (.bool true)) ∧ OldK S.heap s'.heap ∧ s'.os = S.os ∧ AllBare s'.gens
theorem base_in {H : Hp} {o : Obj} (hA : ∀ b u, H b = some u → b = a) (hs : S.heap.get? a = some { cls := .type "list", data := .seq vs.toArray }) : (∀ b o, S.heap.get? b = some o → (∀ es ep, o.data = .dict es ep → H b = none)) := by
  intro b o e es ep d
  cases q : H b with
  | none => rfl
  | some u =>
    have := hA b u q
    subst this
    rw [hs] at e
    cases e
    cases d
/-- the run, from what is known at its entry -/
theorem law_from {H : Hp} (inK : K.In S.heap) (gl : S.heap.Ns mainGlobals mg) (bl : S.heap.Ns builtinsNs mb) (bo : ∀ x : Str, x ≠ "__name__" → mb x = bootBuiltins x) (nl : S.heap.NoLimit) (gn : S.gens = #[])
    (hs : S.heap.get? a = some { cls := .type "list", data := .seq vs.toArray }) (hA : ∀ b u, H b = some u → b = a ∧ K.lookup a = none ∧ ∃ o xs, u = .frz o (.lst xs)) (ok : HOk P w H S.heap)
    (go : ∀ base : Heap, K.In base → base.Ns mainGlobals mg → Env0 P w K mg base callerA [] S H → codeAny (model P w) callerA (.call (.ref fa) ⟨[.ref a], []⟩) (CR (L2.CX P w) [] P w H S (fun v _ => v = .bl true) fun _ _ _ => False) S) :
    codeAny (model P w) callerA (.call (.ref fa) ⟨[.ref a], []⟩) (Wanted S) S := by
  have free := base_in (H := H) (o := default) (fun b u q => (hA b u q).1) hs
  have names : ∀ {b : Addr} {m : Str → Option Value}, S.heap.Ns b m → (hidT S.heap H).Ns b m := by
    rintro b m ⟨o, es, ep, e, d, r⟩
    exact ⟨o, es, ep, hidT_get e (free b o e es ep d), d, r⟩
  have kb : K.In (hidT S.heap H) := by
    intro b o e
    refine hidT_get (inK b o e) ?_
    cases q : H b with
    | none => rfl
    | some u =>
      obtain ⟨h1, h2, _⟩ := hA b u q
      subst h1
      rw [h2] at e
      cases e
  have lim : (hidT S.heap H).NoLimit := by
    obtain ⟨mc, q1, q2⟩ := nl
    exact ⟨mc, names q1, q2⟩
  have en : Env0 P w K mg (hidT S.heap H) callerA [] S H := by
    refine ⟨rfl, ⟨kb, names gl, ⟨mb, names bl, bo⟩, lim⟩, fun b o e => of_hidT e, ?_, trivial, ?_, ok, .of_eq gn⟩
    · rw [hidT_size]
      exact Nat.le_refl _
    · intro b hb
      have hb : b ∈ ([] : List Addr) := hb
      cases hb
  refine codeAny_mono (go _ kb (names gl) en) ?_
  intro r s' h
  cases r with
  | error e =>
    obtain ⟨_, _, _, _, _, _, _, _, _, _, _, _, z⟩ := (show L2.CX P w [] H S (fun _ _ _ => False) e s' from h)
    exact z.elim
  | ok fl =>
    cases fl <;> first | exact False.elim h | skip
    rename_i u
    obtain ⟨v, H', h1, h2, un, ok', rv, hv⟩ := h
    have hv : v = .bl true := hv
    subst hv
    cases (show u = Value.bool true from rv)
    refine ⟨rfl, OldK.of_keep ?_, h1, h2⟩
    intro b o e
    cases q : H b with
    | none =>
      refine un.keep b o e q ?_ ?_
      · intro z
        have z : b ∈ ([] : List Addr) := z
        cases z
      · simp
    | some u =>
      obtain ⟨_, _, ob, xs, rfl⟩ := hA b u q
      obtain ⟨e1, _⟩ := ok b _ q
      obtain ⟨e2, _⟩ := ok' b _ (un.frzs b ob _ q)
      rw [e] at e1
      cases e1
      exact e2
/-- the run of a law of the machine -/
theorem law_zm {T : Tab} {G : Glb} {I : Nat → FnI} {fd : Nat → FuncData} {code : Nat → Option Code} {kl d : Nat} {x : Str}
    (inK : K.In S.heap) (gl : S.heap.Ns mainGlobals mg) (bl : S.heap.Ns builtinsNs mb) (bo : ∀ x : Str, x ≠ "__name__" → mb x = bootBuiltins x) (nl : S.heap.NoLimit) (gn : S.gens = #[])
    (hs : S.heap.get? a = some { cls := .type "list", data := .seq vs.toArray }) (hi : IntsAre vs ns) (hz : ns.length ≤ sizeLine) (hr : Room d callerA) (hf : T.fn kl = fa) (hx : (I kl).ps = [x])
    (hF : ∀ base : Heap, K.In base → base.Ns mainGlobals mg → (Fix.mk P w K mg base T G I fd).Ok ∧ ∀ k c, code k = some c → DefIs (Fix.mk P w K mg base T G I fd) k c)
    (law : ∃ M, callZ G code d kl [.scr ns] [] = .ok (.bl true) M) : codeAny (model P w) callerA (.call (.ref fa) ⟨[.ref a], []⟩) (Wanted S) S := by
  have rv := vals_ints hi
  have hl : vs.length = ns.length := by rw [← rv.length, List.length_map]
  obtain ⟨M, hM⟩ := law
  have run : ∀ H : Hp, RelZ K T ⟨H, [], []⟩ (.scr ns) (.ref a) → ∀ base : Heap, K.In base → base.Ns mainGlobals mg → Env0 P w K mg base callerA [] S H →
      codeAny (model P w) callerA (.call (.ref fa) ⟨[.ref a], []⟩) (CR (L2.CX P w) [] P w H S (fun v _ => v = .bl true) fun _ _ _ => False) S := by
    intro H r base kb gb e0
    obtain ⟨ok, hD⟩ := hF base kb gb
    have fz := fnZ_all ok hD d kl
    have h := fz callerA [] S H ⟨[.ref a], []⟩ [.ref a] [.ref a] [.scr ns] ⟨H, [], []⟩ [] (fun v _ => v = .bl true) (fun _ _ _ => False) hr rfl e0 (ok.bd kl S [.ref a] (by rw [hx]; rfl)) (.cons rfl .nil) sim0 ⟨_, _, rfl, r, rfl⟩ (by rw [hx]; rfl)
    rw [← hf]
    refine h ?_
    show (callZ G code d kl [.scr ns] []).To _ _
    rw [hM]
    intro g' H' v _ _ rb
    exact rb
  cases hk : K.lookup a with
  | some o =>
    have e := inK a o hk
    rw [hs] at e
    cases e
    refine law_from inK gl bl bo nl gn hs (H := fun _ => none) (fun b u z => by cases z) (fun b u z => by cases z) (run _ ⟨a, rfl, .inr (.inr ⟨_, vs.toArray, _, hk, rfl, rfl, rfl, ?_, ?_⟩)⟩)
    · rw [List.size_toArray, hl]
      exact hz
    · rw [List.toList_toArray]
      exact rv
  | none =>
    refine law_from inK gl bl bo nl gn hs (H := onlyAt a (.frz { cls := .type "list", data := .seq vs.toArray } (.lst (ns.map V.int)))) (fun b u z => ?_) (fun b u z => ?_) (run _ ⟨a, rfl, .inr (.inl ⟨_, onlyAt_at⟩)⟩)
    · obtain ⟨h1, h2⟩ := onlyAt_of z
      exact ⟨h1, hk, _, _, h2⟩
    · obtain ⟨h1, h2⟩ := onlyAt_of z
      subst h1 h2
      refine ⟨hs, ?_, vs, _, rv, hs⟩
      rw [List.length_map]
      exact hz
end
/-- what a law's text gives -/
structure LawIs (l : PySem.W.OpenLaw) (w : World) (K : PySem.W.Frag) (mg : Str → Option Value) (fa : Addr) (G : Glb) (I : Nat → FnI) (code : Nat → Option Code) (kl : Nat) : Prop where
  ex : ∃ (T : Tab) (fd : Nat → FuncData), T.fn kl = fa ∧ ∀ base : Heap, K.In base → base.Ns mainGlobals mg → (Fix.mk l.prog w K mg base T G I fd).Ok ∧ ∀ k c, code k = some c → DefIs (Fix.mk l.prog w K mg base T G I fd) k c
theorem walk_zm {l : PySem.W.OpenLaw} {n d kl : Nat} {q : Program} {loose : List Str} {XP : (Str → Option Value) → Heap → Prop} {YP : World → Heap → Prop} {r : DefRec} {K : Params → PySem.W.Frag} {x : Str} {G : Glb} {I : Nat → FnI} {code : Nat → Option Code}
    (hn : l.most = some n) (hn2 : n ≤ sizeLine) (hdf : r.params.defaults = []) (hr : Room d callerA) (hx : (I kl).ps = [x])
    (hY : ∀ (w : World) (h : Heap), YP w h → (K w.params).In h)
    (F : ∀ (w : World) (mg : Str → Option Value) (fa : Addr) (h : Heap), (K w.params).In h → h.Ns mainGlobals mg → mg r.name = some (.ref fa) → LawIs l w (K w.params) mg fa G I code kl)
    (law : ∀ ns : List Int, ns.length ≤ n → (∀ z ∈ ns, Builtin.Int.intBits z ≤ 1048576) → ∃ M, callZ G code d kl [.scr ns] [] = .ok (.bl true) M) :
    PySem.W.WalkO q loose XP YP l.row.toRowW r [] (fun f vs => PySem.call f vs) := by
  refine Att.attach_callB hn hdf ?_
  intro w s₀ S mg mb fa o pm cd doc a vs ns Gd Y ho hd hcd hmg hobj hints hlen hbits hg
  obtain ⟨T, fd, hf, hF⟩ := (F w mg fa _ (hY w _ Y) Gd.T.g hmg).ex
  exact law_zm (hY w _ Y) Gd.T.g Gd.T.b Gd.T.builtins Gd.T.nolimit hg hobj hints (Nat.le_trans hlen hn2) hr hf hx hF (law ns hlen hbits)
end ZM
end
section
/-! ZM, part V: what a law's text gives, put together. -/
namespace ZM
open PySem L2 PyProof.Rows
/-- one global name -/
def GlbAt (K : PySem.W.Frag) (T : Tab) (mg : Str → Option Value) (x : Str) (v : GV) : Prop := match v with
  | .fn k => mg x = some (.ref (T.fn k)) ∧ PySem.W.keepIn K (.ref (T.fn k)) = true
  | .blt => mg x = none
  | .ty t => mg x = none ∧ bootBuiltins x = some (.type t.name)
  | .con z => ∃ u v, mg x = some u ∧ RelV v u ∧ ∀ g, RelZ K T g z v
def GlbOk (K : PySem.W.Frag) (T : Tab) (mg : Str → Option Value) : Glb → Prop
  | [] => True
  | (x, v) :: r => GlbAt K T mg x v ∧ GlbOk K T mg r
theorem glbOk_mem {K : PySem.W.Frag} {T : Tab} {mg : Str → Option Value} : ∀ {G : Glb}, GlbOk K T mg G → ∀ x v, (x, v) ∈ G → GlbAt K T mg x v
  | [], _, _, _, h => nomatch h
  | (y, w) :: r, h, x, v, hm => by
    rcases List.mem_cons.mp hm with e | e
    · cases e
      exact h.1
    · exact glbOk_mem h.2 x v e
theorem fixOk {P : Program} {w : World} {K : PySem.W.Frag} {mg : Str → Option Value} {base : Heap} {T : Tab} {G : Glb} {I : Nat → FnI} {fd : Nat → FuncData} (h1 : GlbOk K T mg G)
    (h2 : ∀ k s us, us.length = (I k).ps.length → BindsTo s (fd k) ⟨us, []⟩ ((I k).ps.zip us))
    (h3 : ∀ k n ks p s us ws, (n, ks, p) ∈ (I k).kw → us.length = n → ws.length = ks.length → p.length = (I k).ps.length ∧ BindsTo s (fd k) ⟨us, ks.zip ws⟩ ((I k).ps.zip (permV Value.none (us ++ ws) p))) : (Fix.mk P w K mg base T G I fd).Ok :=
  ⟨fun x v hm => by
    have q := glbOk_mem h1 x v hm
    cases v <;> exact q, h2, h3⟩
/-- constants: flat ones -/
def flatV : Z → Value → Bool
  | .non, .none => true
  | .bl b, .bool b' => b == b'
  | .int i, .int j _ => decide (i = j)
  | .str s, .str s' _ => s == s'
  | _, _ => false
def flatVs : List Z → List Value → Bool
  | [], [] => true
  | z :: r, v :: q => flatV z v && flatVs r q
  | _, _ => false
theorem flatV_ok {K : PySem.W.Frag} {T : Tab} {z : Z} {u : Value} (h : flatV z u = true) : ∃ v, RelV v u ∧ ∀ g, RelZ K T g z v := by
  unfold flatV at h
  split at h
  · exact ⟨.non, rfl, fun _ => rfl⟩
  · rename_i b b'
    cases eq_of_beq h
    exact ⟨.bl b, rfl, fun _ => rfl⟩
  · rename_i i j t
    cases of_decide_eq_true h
    exact ⟨.int i, ⟨t, rfl⟩, fun _ => rfl⟩
  · rename_i s s' t
    cases eq_of_beq h
    exact ⟨.str s, ⟨t, rfl⟩, fun _ => rfl⟩
  · cases h
theorem flatVs_ok {K : PySem.W.Frag} {T : Tab} : ∀ {l : List Z} {us : List Value}, flatVs l us = true → ∃ vs, Vals vs us ∧ ∀ g, RelZs K T g l vs
  | [], [], _ => ⟨[], .nil, fun _ => rfl⟩
  | [], _ :: _, h => by simp [flatVs] at h
  | _ :: _, [], h => by simp [flatVs] at h
  | z :: l, u :: us, h => by
    unfold flatVs at h
    rw [Bool.and_eq_true] at h
    obtain ⟨v, h1, h2⟩ := flatV_ok (K := K) (T := T) h.1
    obtain ⟨vs, h3, h4⟩ := flatVs_ok (K := K) (T := T) h.2
    exact ⟨v :: vs, .cons h1 h3, fun g => ⟨v, vs, rfl, h2 g, h4 g⟩⟩
theorem con_flat {K : PySem.W.Frag} {T : Tab} {mg : Str → Option Value} {x : Str} {z : Z} {u : Value} (h : mg x = some u) (hf : flatV z u = true) : GlbAt K T mg x (.con z) := by
  obtain ⟨v, h1, h2⟩ := flatV_ok (K := K) (T := T) hf
  exact ⟨u, v, h, h1, h2⟩
theorem con_tup {K : PySem.W.Frag} {T : Tab} {mg : Str → Option Value} {x : Str} {l : List Z} {a : Addr} {d : Option Addr} {its : Array Value} {n : Nat} {sl : Array (Option Value)} (h : mg x = some (.ref a)) (lk : K.lookup a = some ⟨.type "tuple", d, .seq its n, sl⟩) (hz : its.size ≤ sizeLine) (hf : flatVs l its.toList = true) : GlbAt K T mg x (.con (.tup l)) := by
  obtain ⟨vs, h1, h2⟩ := flatVs_ok (K := K) (T := T) hf
  exact ⟨.ref a, .ref a, h, rfl, fun g => ⟨a, vs, rfl, .inr ⟨_, its, n, lk, rfl, rfl, hz, h1⟩, h2 g⟩⟩
/-! ### the tables -/
def KwOk (ps : List Str) (f : FuncData) : List (Nat × List Str × List Nat) → Prop
  | [] => True
  | (n, ks, p) :: r => (p.length = ps.length ∧ ∀ (s : Shared) (us ws : List Value), us.length = n → ws.length = ks.length → BindsTo s f ⟨us, ks.zip ws⟩ (ps.zip (permV Value.none (us ++ ws) p))) ∧ KwOk ps f r
structure Bd (i : FnI) (f : FuncData) : Prop where
  pos : ∀ (s : Shared) (us : List Value), us.length = i.ps.length → BindsTo s f ⟨us, []⟩ (i.ps.zip us)
  kw : KwOk i.ps f i.kw
theorem kwOk_mem {ps : List Str} {f : FuncData} : ∀ {l : List (Nat × List Str × List Nat)}, KwOk ps f l → ∀ n ks p, (n, ks, p) ∈ l → p.length = ps.length ∧ ∀ (s : Shared) (us ws : List Value), us.length = n → ws.length = ks.length → BindsTo s f ⟨us, ks.zip ws⟩ (ps.zip (permV Value.none (us ++ ws) p))
  | [], _, _, _, _, h => nomatch h
  | (n', ks', p') :: r, h, n, ks, p, hm => by
    rcases List.mem_cons.mp hm with e | e
    · cases e
      exact h.1
    · exact kwOk_mem h.2 n ks p e
abbrev Tb := List (FnI × ZM.Code)
def noRow : FnI × ZM.Code := (⟨[], []⟩, ⟨[], []⟩)
def Tb.I (t : Tb) (k : Nat) : FnI := (t.getD k (t.getD 0 noRow)).1
def Tb.code (t : Tb) (k : Nat) : Option ZM.Code := t[k]?.map (·.2)
/-- a row -/
structure RowIs (K : PySem.W.Frag) (G : Glb) (I : Nat → FnI) (i : FnI) (c : ZM.Code) (a : Addr) (f : FuncData) : Prop where
  bd : Bd i f
  ex : ∃ (x : Str) (st : Stmt), L2.Fun K x x st a f ∧ FnScope c.N i.ps (defScope st) ∧ okSs c.N G I (defScope st) (fun _ => true) c.b (defBody st) = true
def AllR (P : FnI → ZM.Code → Addr → FuncData → Prop) : Tb → List (Addr × FuncData) → Prop
  | [], [] => True
  | (i, c) :: r, (a, f) :: q => P i c a f ∧ AllR P r q
  | _, _ => False
theorem allR_get {P : FnI → ZM.Code → Addr → FuncData → Prop} {t0 : FnI × ZM.Code} {d0 : Addr × FuncData} (h0 : P t0.1 t0.2 d0.1 d0.2) : ∀ {t : Tb} {l : List (Addr × FuncData)}, AllR P t l → ∀ k, P (t.getD k t0).1 (t.getD k t0).2 (l.getD k d0).1 (l.getD k d0).2
  | [], [], _, k => by simpa using h0
  | [], _ :: _, h, _ => h.elim
  | _ :: _, [], h, _ => h.elim
  | _ :: _, _ :: _, h, 0 => h.1
  | _ :: _, _ :: _, h, k + 1 => allR_get h0 h.2 k
theorem law_is {l : PySem.W.OpenLaw} {w : World} {K : PySem.W.Frag} {mg : Str → Option Value} {G : Glb} {t : Tb} {r0 : FnI × ZM.Code} {a0 : Addr} {f0 : FuncData} {q : List (Addr × FuncData)} (hg : GlbOk K ⟨fun k => (((a0, f0) :: q).getD k (a0, f0)).1, fun _ => 0⟩ mg G)
    (h : AllR (RowIs K G (Tb.I (r0 :: t))) (r0 :: t) ((a0, f0) :: q)) : LawIs l w K mg a0 G (Tb.I (r0 :: t)) (Tb.code (r0 :: t)) 0 := by
  have hh : ∀ k, RowIs K G (Tb.I (r0 :: t)) (Tb.I (r0 :: t) k) ((r0 :: t).getD k r0).2 (((a0, f0) :: q).getD k (a0, f0)).1 (((a0, f0) :: q).getD k (a0, f0)).2 := fun k => allR_get (t0 := r0) (d0 := (a0, f0)) h.1 h k
  refine ⟨⟨fun k => (((a0, f0) :: q).getD k (a0, f0)).1, fun _ => 0⟩, fun k => (((a0, f0) :: q).getD k (a0, f0)).2, rfl, fun base _ _ => ⟨fixOk hg (fun k s us hl => (hh k).bd.pos s us hl) (fun k n ks p s us ws hm h1 h2 => ?_), fun k c hc => ?_⟩⟩
  · obtain ⟨e1, e2⟩ := kwOk_mem (hh k).bd.kw n ks p hm
    exact ⟨e1, e2 s us ws h1 h2⟩
  · have e : ((r0 :: t).getD k r0).2 = c := by
      have hc : ((r0 :: t)[k]?).map (·.2) = some c := hc
      obtain ⟨z, h1, h2⟩ := Option.map_eq_some_iff.mp hc
      rw [List.getD_eq_getElem?_getD, h1]
      exact h2
    have q := (hh k).ex
    rw [e] at q
    exact ⟨q⟩
end ZM
end
section
/-! ZM, part X: the machine's run by equations. -/
namespace ZM
open PySem L2
section
variable {C : Calls} {G : Glb} {code : Nat → Option ZM.Code} {d k : Nat} {η : Sl} {M : Mem}
theorem x_call {c : ZM.Code} (h : code k = some c) (zs : List Z) (M : Mem) : callZ G code (d + 1) k zs M = endZ (runs (callZ G code d) G c.b (startZ c.N.length zs) M) := by
  show (match code k with | some c => _ | none => _) = _
  rw [h]
theorem bind_ok {α β : Type} {a : α} {f : α → Mem → Res β} : (Res.ok a M).bind f = f a M := id rfl
theorem bind_stuck {α β : Type} {f : α → Mem → Res β} : (Res.stuck : Res α).bind f = .stuck := id rfl
theorem ofO_some {α : Type} {a : α} : ofO (some (a, M)) = .ok a M := id rfl
theorem e_var {i : Nat} {z : Z} (h : η[i]? = some (some z)) : den C G (.var i) η M = .ok z M := by
  unfold den zVar
  rw [h]
theorem e_c {z : Z} : den C G (.c z) η M = .ok z M := by
  rw [den]
  first | done | rfl
theorem e_gv {j : Nat} : den C G (.gv j) η M = .ok (G.z j) M := by
  rw [den]
  first | done | rfl
theorem e_op {o : O2} {a b : E} : den C G (.op o a b) η M = (den C G a η M).bind fun x M1 => (den C G b η M1).bind fun y M2 => ofO (o.sem x y M2) := by
  rw [den]
  first | done | rfl
theorem e_cmp {o : C2} {a b : E} : den C G (.cmp o a b) η M = (den C G a η M).bind fun x M1 => (den C G b η M1).bind fun y M2 => ofO (o.sem x y M2) := by
  rw [den]
  first | done | rfl
theorem e_chain {o o' : C2} {a b c : E} : den C G (.chain o o' a b c) η M = (den C G a η M).bind fun x M1 => (den C G b η M1).bind fun y M2 => (ofO (o.sem x y M2)).bind fun t M3 => (tstB t M3).bind fun k M4 => if k = true then (den C G c η M4).bind fun w M5 => ofO (o'.sem y w M5) else .ok (.bl false) M4 := by
  rw [den]
  first | done | rfl
theorem e_neg {a : E} : den C G (.neg a) η M = (den C G a η M).bind fun x M1 => ofO (sNeg x M1) := by
  rw [den]
  first | done | rfl
theorem e_not {a : E} : den C G (.not a) η M = notR ((den C G a η M).bind tst) := by
  rw [den]
  first | done | rfl
theorem e_and {a b : E} : den C G (.and a b) η M = (den C G a η M).bind fun x M1 => (tst x M1).bind fun k M2 => if k = true then den C G b η M2 else .ok x M2 := by
  rw [den]
  first | done | rfl
theorem e_or {a b : E} : den C G (.or a b) η M = (den C G a η M).bind fun x M1 => (tst x M1).bind fun k M2 => if k = true then .ok x M2 else den C G b η M2 := by
  rw [den]
  first | done | rfl
theorem e_ite {c a b : E} : den C G (.ite c a b) η M = ((den C G c η M).bind tst).bind fun k M1 => if k = true then den C G a η M1 else den C G b η M1 := by
  rw [den]
  first | done | rfl
theorem e_tup {l : List E} : den C G (.tup l) η M = (dens C G l η M).bind fun zs M1 => if zs.length ≤ sizeLine then .ok (.tup zs) M1 else .stuck := by
  rw [den]
  first | done | rfl
theorem e_lst {m : Bool} {l : List E} : den C G (.lst m l) η M = (dens C G l η M).bind fun zs M1 => if zs.length ≤ sizeLine then ofO (some (newL m zs M1)) else .stuck := by
  rw [den]
  first | done | rfl
theorem e_dic0 : den C G .dic0 η M = .ok .dic0 M := by
  rw [den]
  first | done | rfl
theorem e_ix {a i : E} : den C G (.ix a i) η M = (den C G a η M).bind fun x M1 => (den C G i η M1).bind fun y M2 => ofO (sIx x y M2) := by
  rw [den]
  first | done | rfl
theorem e_slA {m : Bool} {a lo : E} : den C G (.slA m a lo) η M = (den C G a η M).bind fun x M1 => (den C G lo η M1).bind fun l M2 => match l with
    | .int i => ofO (sSl m x (some i) none M2)
    | _ => .stuck := by
  rw [den]
  first | done | rfl
theorem e_slB {m : Bool} {a hi : E} : den C G (.slB m a hi) η M = (den C G a η M).bind fun x M1 => (den C G hi η M1).bind fun l M2 => match l with
    | .int i => ofO (sSl m x none (some i) M2)
    | _ => .stuck := by
  rw [den]
  first | done | rfl
theorem e_frz {a : E} : den C G (.frz a) η M = (den C G a η M).bind frzR := by
  rw [den]
  first | done | rfl
theorem e_call {j k : Nat} {l : List E} : den C G (.call j k l) η M = (dens C G l η M).bind fun zs M1 => C k zs M1 := by
  rw [den]
  first | done | rfl
theorem e_callK {j k n : Nat} {l : List E} {p : List Nat} : den C G (.callK j k n l p) η M = (dens C G l η M).bind fun zs M1 => C k (permZ zs p) M1 := by
  rw [den]
  first | done | rfl
theorem e_bi {b : Bi} {l : List E} : den C G (.bi b l) η M = (dens C G l η M).bind fun zs M1 => ofO (biSem b zs M1) := by
  rw [den]
  first | done | rfl
theorem e_me {b : Me} {o : E} {l : List E} : den C G (.me b o l) η M = (den C G o η M).bind fun x M1 => if rcv b x M1 = true then (dens C G l η M1).bind fun zs M2 => ofO (meSem b x zs M2) else .stuck := by
  rw [den]
  first | done | rfl
theorem e_comp {m : Bool} {e : E} {tg : Tg} {it : It} {src ifs : List E} : den C G (.comp m e tg it src ifs) η M = (dens C G src η M).bind fun zs M1 => match itemsZ it zs with
    | none => .stuck
    | some l => (turns (wipeZ η tg.own) tg (denT C G ifs) (den C G e) l [] M1).bind fun acc M2 => ofO (some (newL m acc M2)) := by
  rw [den]
  first | done | rfl
theorem es_nil : dens C G [] η M = .ok [] M := by
  rw [dens]
  first | done | rfl
theorem es_cons {e : E} {r : List E} : dens C G (e :: r) η M = (den C G e η M).bind fun z M1 => (dens C G r η M1).bind fun zs M2 => .ok (z :: zs) M2 := by
  rw [dens]
  first | done | rfl
theorem t_nil : denT C G [] η M = .ok true M := by
  rw [denT]
  first | done | rfl
theorem t_one {e : E} {r : List E} : denT C G (e :: r) η M = (den C G e η M).bind tst := by
  rw [denT]
  first | done | rfl
theorem s_pass : run C G .pass η M = .ok (.nx η) M := by
  rw [run]
  first | done | rfl
theorem s_ret {e : E} : run C G (.ret e) η M = (den C G e η M).bind fun z M1 => .ok (.rt z) M1 := by
  rw [run]
  first | done | rfl
theorem s_retN : run C G .retN η M = .ok (.rt .non) M := by
  rw [run]
  first | done | rfl
theorem s_ex {e : E} : run C G (.ex e) η M = (den C G e η M).bind fun _ M1 => .ok (.nx η) M1 := by
  rw [run]
  first | done | rfl
theorem s_asg {t : Tg} {e : E} : run C G (.asg t e) η M = (den C G e η M).bind fun z M1 => match asg t z η with
    | some η1 => .ok (.nx η1) M1
    | none => .stuck := by
  rw [run]
  first | done | rfl
theorem s_par {ts : List Nat} {es : List E} : run C G (.par ts es) η M = (dens C G es η M).bind fun zs M1 => match asgs (ts.map .name) zs η with
    | some η1 => .ok (.nx η1) M1
    | none => .stuck := by
  rw [run]
  first | done | rfl
theorem s_ife {c : E} {a b : List S} : run C G (.ife c a b) η M = ((den C G c η M).bind tst).bind fun k M1 => if k = true then runs C G a η M1 else runs C G b η M1 := by
  rw [run]
  first | done | rfl
theorem s_for {tg : Tg} {it : It} {src : List E} {b : List S} : run C G (.for_ tg it src b) η M = (dens C G src η M).bind fun zs M1 => match itemsZ it zs with
    | none => .stuck
    | some l => forZ tg (runs C G b) l η M1 := by
  rw [run]
  first | done | rfl
theorem s_whl {c : E} {b : List S} : run C G (.whl c b) η M = whlZ (fun η M => (den C G c η M).bind tst) (runs C G b) whlLid η M := by
  rw [run]
  first | done | rfl
theorem s_set {o i e : E} : run C G (.setIx o i e) η M = (den C G e η M).bind fun z M1 => (den C G o η M1).bind fun x M2 => (den C G i η M2).bind fun y M3 => match x, y with
    | .ref n, .int k => match M3[n]? with
      | some (.lst l) => match ixN l.length k with
        | some j => .ok (.nx η) (M3.set n (.lst (l.set j z)))
        | none => .stuck
      | _ => .stuck
    | _, _ => .stuck := by
  rw [run]
  first | done | rfl
theorem s_nev : run C G .nev η M = .stuck := by
  rw [run]
  first | done | rfl
theorem ss_nil : runs C G [] η M = .ok (.nx η) M := by
  rw [runs]
  first | done | rfl
def thenS (C : Calls) (G : Glb) (r : List S) : Fl → Mem → Res Fl := fun fl M1 => match fl with
    | .nx η1 => runs C G r η1 M1
    | fl => .ok fl M1
theorem ss_cons {s : S} {r : List S} : runs C G (s :: r) η M = (run C G s η M).bind (thenS C G r) := by
  rw [runs]
  first | done | rfl
theorem then_nx {r : List S} : thenS C G r (.nx η) M = runs C G r η M := id rfl
theorem then_rt {r : List S} {z : Z} : thenS C G r (.rt z) M = .ok (.rt z) M := id rfl
theorem then_bk {r : List S} : thenS C G r (.bk η) M = .ok (.bk η) M := id rfl
theorem then_ct {r : List S} : thenS C G r (.ct η) M = .ok (.ct η) M := id rfl
theorem end_rt {z : Z} : endZ (.ok (.rt z) M) = .ok z M := id rfl
theorem end_nx : endZ (.ok (.nx η) M) = .ok .non M := id rfl
theorem end_stuck : endZ .stuck = .stuck := id rfl
theorem a_name {i : Nat} {z : Z} : asg (.name i) z η = if i < η.length then some (η.set i (some z)) else none := by
  rw [asg]
  first | done | rfl
theorem a_tup {ts : List Tg} {l : List Z} : asg (.tup ts) (.tup l) η = asgs ts l η := by
  rw [asg]
  first | done | rfl
theorem as_nil : asgs [] [] η = some η := by
  rw [asgs]
  first | done | rfl
theorem as_cons {t : Tg} {ts : List Tg} {z : Z} {zs : List Z} : asgs (t :: ts) (z :: zs) η = match asg t z η with
    | some η1 => asgs ts zs η1
    | none => none := by
  rw [asgs]
  first | done | rfl
theorem tst_bl {b : Bool} : tst (.bl b) M = .ok b M := id rfl
theorem tst_tup {l : List Z} : tst (.tup l) M = .ok (!l.isEmpty) M := id rfl
theorem tstB_bl {b : Bool} : tstB (.bl b) M = .ok b M := id rfl
theorem notR_ok {b : Bool} : notR (.ok b M) = .ok (.bl (!b)) M := id rfl
theorem start_eq {n : Nat} {zs : List Z} : startZ n zs = zs.map some ++ List.replicate (n - zs.length) none := id rfl
/-! a comprehension that changes nothing -/
theorem turns_pure {tg : Tg} {t : ZT} {e : ZE} {p : Z → Bool} {f : Z → Z} : ∀ (l acc : List Z), (∀ z ∈ l, ∃ η1, asg tg z η = some η1 ∧ t η1 M = .ok (p z) M ∧ (p z = true → e η1 M = .ok (f z) M)) → acc.length + l.length ≤ sizeLine → turns η tg t e l acc M = .ok (acc ++ (l.filter p).map f) M
  | [], acc, _, _ => by rw [turns]; simp
  | z :: r, acc, h, hl => by
    obtain ⟨η1, h1, h2, h3⟩ := h z List.mem_cons_self
    rw [List.length_cons] at hl
    rw [turns, h1]
    dsimp only
    rw [h2]
    show (if p z = true then _ else _) = _
    cases hp : p z with
    | true =>
      rw [if_pos rfl, h3 hp]
      show (if acc.length < sizeLine then _ else _) = _
      rw [if_pos (by omega), turns_pure r _ (fun y hy => h y (List.mem_cons_of_mem _ hy)) (by rw [List.length_append, List.length_singleton]; omega), List.filter_cons_of_pos hp]
      simp
    | false =>
      rw [if_neg Bool.false_ne_true, turns_pure r _ (fun y hy => h y (List.mem_cons_of_mem _ hy)) (by omega), List.filter_cons_of_neg (by rw [hp]; exact Bool.false_ne_true)]
/-- a for whose turns keep a word -/
theorem for_keep {tg : Tg} {b : ZS} (P : Nat → Sl → Mem → Prop) (l : List Z) (h : ∀ i z η M, l[i]? = some z → P i η M → ∃ η1, asg tg z η = some η1 ∧ ∃ η2 M2, (b η1 M = .ok (.nx η2) M2 ∨ b η1 M = .ok (.ct η2) M2) ∧ P (i + 1) η2 M2) :
    ∀ (n i : Nat) (η : Sl) (M : Mem), l.length = i + n → P i η M → ∃ η' M', forZ tg b (l.drop i) η M = .ok (.nx η') M' ∧ P l.length η' M'
  | 0, i, η, M, e, p => by
    rw [List.drop_of_length_le (by omega)]
    refine ⟨η, M, by rw [forZ], ?_⟩
    have : l.length = i := by omega
    rw [this]
    exact p
  | n + 1, i, η, M, e, p => by
    have hi : i < l.length := by omega
    rw [List.drop_eq_getElem_cons hi]
    obtain ⟨η1, h1, η2, M2, h2, p2⟩ := h i l[i] η M (List.getElem?_eq_getElem hi) p
    obtain ⟨η', M', q1, q2⟩ := for_keep P l h n (i + 1) η2 M2 (by omega) p2
    refine ⟨η', M', ?_, q2⟩
    rw [forZ, h1]
    dsimp only
    rcases h2 with h2 | h2
    · rw [h2]
      exact q1
    · rw [h2]
      exact q1
theorem for_all {tg : Tg} {b : ZS} (P : Nat → Sl → Mem → Prop) (l : List Z) (h : ∀ i z η M, l[i]? = some z → P i η M → ∃ η1, asg tg z η = some η1 ∧ ∃ η2 M2, (b η1 M = .ok (.nx η2) M2 ∨ b η1 M = .ok (.ct η2) M2) ∧ P (i + 1) η2 M2)
    (p : P 0 η M) : ∃ η' M', forZ tg b l η M = .ok (.nx η') M' ∧ P l.length η' M' := for_keep P l h l.length 0 η M (by simp) p
/-! operators -/
theorem is_nn {n : Bool} : sIs n .non .non M = some (.bl (!n), M) := by
  cases n <;> rfl
theorem is_in {n : Bool} {i : Int} : sIs n (.int i) .non M = some (.bl n, M) := by
  cases n <;> rfl
theorem is_tn {n : Bool} {l : List Z} : sIs n (.tup l) .non M = some (.bl n, M) := by
  cases n <;> rfl
theorem is_bb {n a b : Bool} : sIs n (.bl a) (.bl b) M = some (.bl (xor n (decide (a = b))), M) := id rfl
theorem eq_ii {n : Bool} {i j : Int} : sEq n (.int i) (.int j) M = some (.bl (xor n (decide (i = j))), M) := id rfl
theorem eq_ss {n : Bool} {a b : Str} (ha : PyData.strOk a = true) (hb : PyData.strOk b = true) : sEq n (.str a) (.str b) M = some (.bl (xor n (a == b)), M) := by
  simp [sEq, datM, SeqAt.shaped, PyData.canLay0, PyData.depth, PyData.eqv, ha, hb]
theorem eq_data {n : Bool} {x y : Z} {p q : PyData} (hx : datM 32 M x = some p) (hy : datM 32 M y = some q) (h1 : SeqAt.shaped p = true) (h2 : SeqAt.shaped q = true) (hn : ∀ i j, x = .int i → y = .int j → False) : sEq n x y M = some (.bl (xor n (PyData.eqv p q)), M) := by
  unfold sEq
  split
  · rename_i i j
    exact (hn _ _ rfl rfl).elim
  · rw [hx, hy]
    dsimp only
    rw [h1, h2]
    rfl
/-! lists of ints -/
theorem at_int {l : List Int} {i : Int} (h0 : 0 ≤ i) (h1 : i < l.length) : atI (l.map Z.int) i = some (.int (l.getD i.toNat 0)) := by
  unfold atI ixN
  rw [if_pos h0, List.length_map, if_pos h1]
  show (l.map Z.int)[i.toNat]? = _
  have hi : i.toNat < l.length := by omega
  rw [List.getElem?_map, List.getD_eq_getElem?_getD, List.getElem?_eq_getElem hi]
  rfl
theorem mem_range {z : Z} : ∀ {n : Nat} {lo : Int}, z ∈ rangeZ lo n → ∃ i, z = .int i ∧ lo ≤ i ∧ i < lo + n
  | 0, _, h => by simp [rangeZ] at h
  | n + 1, lo, h => by
    rw [rangeZ] at h
    rcases List.mem_cons.mp h with e | e
    · exact ⟨lo, e, by omega, by omega⟩
    · obtain ⟨i, h1, h2, h3⟩ := mem_range e
      exact ⟨i, h1, by omega, by omega⟩
def pr (p : Int × Int) : Z := .tup [.int p.1, .int p.2]
/-- neighbours -/
def nb (l : List Int) : List (Int × Int) := l.zip l.tail
theorem nb_len (l : List Int) : (nb l).length = l.length - 1 := by
  unfold nb
  rw [List.length_zip, List.length_tail]
  omega
theorem nb_at {l : List Int} {i : Nat} (h : i < l.length - 1) : (nb l)[i]? = some (l.getD i 0, l.getD (i + 1) 0) := by
  have h1 : i < l.length := by omega
  have h2 : i + 1 < l.length := by omega
  have h3 : i < (l.zip l.tail).length := by
    have q := nb_len l
    unfold nb at q
    omega
  show (l.zip l.tail)[i]? = _
  rw [List.getElem?_eq_getElem h3, List.getElem_zip, List.getElem_tail, List.getD_eq_getElem?_getD, List.getD_eq_getElem?_getD, List.getElem?_eq_getElem h1, List.getElem?_eq_getElem h2]
  rfl
theorem range_nb {l : List Int} {lo : Int} {f : Z → Z} (h : ∀ i : Nat, i < l.length - 1 → f (.int (lo + i)) = pr (l.getD i 0, l.getD (i + 1) 0)) : (rangeZ lo (l.length - 1)).map f = (nb l).map pr := by
  refine List.ext_getElem? fun i => ?_
  rw [List.getElem?_map, List.getElem?_map]
  by_cases hi : i < l.length - 1
  · rw [rangeZ_get _ _ _ hi, nb_at hi]
    exact congrArg some (h i hi)
  · rw [List.getElem?_eq_none (by rw [rangeZ_len]; omega), List.getElem?_eq_none (by rw [nb_len]; omega)]
    rfl
theorem len_lt_line {n : Nat} (h : n ≤ 10000) : n ≤ sizeLine := Nat.le_trans h (by decide)
theorem comp_pure {m : Bool} {e : E} {tg : Tg} {it : It} {src ifs : List E} {zs l : List Z} (p : Z → Bool) (f : Z → Z) (hs : dens C G src η M = .ok zs M) (hi : itemsZ it zs = some l)
    (h : ∀ z ∈ l, ∃ η1, asg tg z (wipeZ η tg.own) = some η1 ∧ denT C G ifs η1 M = .ok (p z) M ∧ (p z = true → den C G e η1 M = .ok (f z) M)) (hl : l.length ≤ sizeLine) : den C G (.comp m e tg it src ifs) η M = ofO (some (newL m ((l.filter p).map f) M)) := by
  rw [e_comp, hs]
  dsimp only [Res.bind]
  rw [hi]
  dsimp only
  rw [turns_pure l [] h (by rw [List.length_nil]; omega)]
  rfl
theorem filter_none {α : Type} {p : α → Bool} {l : List α} (h : ∀ a ∈ l, p a = false) : l.filter p = [] := by
  rw [List.filter_eq_nil_iff]
  intro a ha
  rw [h a ha]
  exact Bool.false_ne_true
theorem nil_ne : sEq true (.lst []) (.lst []) M = some (.bl false, M) := id rfl
theorem nil_eq : sEq false (.lst []) (.lst []) M = some (.bl true, M) := id rfl
end
end ZM
end
section
/-! ZM, part Y: data, and what repr shows of them. -/
namespace ZM
open PySem L2
open _root_.TL
/-! ### lists of data -/
theorem canAll {ds : List PyData} (h : ∀ d ∈ ds, PyData.canLay0 d = true) : PyData.canLayAll0 ds = true := by
  induction ds with
  | nil => rfl
  | cons d r ih =>
    show (PyData.canLay0 d && PyData.canLayAll0 r) = true
    rw [h d List.mem_cons_self, ih fun x hx => h x (List.mem_cons_of_mem _ hx)]
    rfl
theorem depAll {ds : List PyData} {n : Nat} (h : ∀ d ∈ ds, d.depth ≤ n) : PyData.depthAll ds ≤ n := by
  induction ds with
  | nil => exact Nat.zero_le _
  | cons d r ih => exact Nat.max_le.mpr ⟨h d List.mem_cons_self, ih fun x hx => h x (List.mem_cons_of_mem _ hx)⟩
theorem shwAll {ds : List PyData} (h : ∀ d ∈ ds, shwD d = true) : shwDs ds = true := by
  induction ds with
  | nil => rfl
  | cons d r ih =>
    show (shwD d && shwDs r) = true
    rw [h d List.mem_cons_self, ih fun x hx => h x (List.mem_cons_of_mem _ hx)]
    rfl
theorem szAll {ds : List PyData} {n : Nat} (h : ∀ d ∈ ds, szD d ≤ n) : szDs ds ≤ ds.length * (n + 2) := by
  induction ds with
  | nil => exact Nat.zero_le _
  | cons d r ih =>
    have h1 := h d List.mem_cons_self
    have h2 := ih fun x hx => h x (List.mem_cons_of_mem _ hx)
    show szD d + 2 + szDs r ≤ (r.length + 1) * (n + 2)
    rw [Nat.succ_mul]
    omega
theorem eqvAll_map {α : Type} {f : α → PyData} (hf : ∀ a b, PyData.eqv (f a) (f b) = true ↔ a = b) : ∀ {l m : List α}, PyData.eqvAll (l.map f) (m.map f) = true ↔ l = m
  | [], [] => by simp [PyData.eqvAll]
  | [], b :: m => by simp [PyData.eqvAll]
  | a :: l, [] => by simp [PyData.eqvAll]
  | a :: l, b :: m => by
    show (PyData.eqv (f a) (f b) && PyData.eqvAll (l.map f) (m.map f)) = true ↔ _
    rw [Bool.and_eq_true, hf, eqvAll_map hf, List.cons.injEq]
/-! ### the text that repr shows -/
def strSmp (x : Str) : Bool := decide (tl (reprText x) = 39 :: (tl x ++ [39])) && !(tl x).contains 39 && (tl x).all fun c => decide (c < 0x110000)
mutual
/-- data whose text can be read back -/
def smp : PyData → Bool
  | .none => true
  | .bool _ => true
  | .int _ => true
  | .str x => strSmp x
  | .list xs => smpAll xs
  | .tuple xs => smpAll xs
  | .dict kvs => kvs.isEmpty
def smpAll : List PyData → Bool
  | [] => true
  | x :: r => smp x && smpAll r
end
def intL : Int → List Nat
  | .ofNat n => numL n
  | .negSucc n => 45 :: numL (n + 1)
mutual
def tx : PyData → List Nat
  | .none => [78, 111, 110, 101]
  | .bool true => [84, 114, 117, 101]
  | .bool false => [70, 97, 108, 115, 101]
  | .int i => intL i
  | .str x => 39 :: (tl x ++ [39])
  | .list xs => 91 :: (txs xs ++ [93])
  | .tuple xs => 40 :: (txs xs ++ (if xs.length = 1 then [44, 41] else [41]))
  | .dict _ => [123, 125]
def txs : List PyData → List Nat
  | [] => []
  | x :: r => tx x ++ txr r
def txr : List PyData → List Nat
  | [] => []
  | x :: r => 44 :: 32 :: (tx x ++ txr r)
end
theorem tl_int (i : Int) : tl (Str.ofString (toString i)) = intL i := by
  cases i with
  | ofNat n => exact tl_num n
  | negSucc n =>
    have e : toString (Int.negSucc n) = "-" ++ toString ((n + 1 : Nat) : Int) := rfl
    have h := tl_num (n + 1)
    rw [tl_ofString] at h
    rw [e, tl_ofString, String.toList_append, List.map_append, h]
    rfl
theorem txs_join : ∀ (xs : List PyData), joinL [44, 32] (xs.map tx) = txs xs
  | [] => by simp [joinL, txs]
  | [x] => by simp [joinL, txs, txr]
  | x :: y :: r => by
    have ih := txs_join (y :: r)
    simp only [List.map_cons] at ih ⊢
    show tx x ++ ([44, 32] ++ joinL [44, 32] (tx y :: r.map tx)) = _
    rw [ih, txs, txs, txr]
    rfl
mutual
theorem tl_shown : ∀ d : PyData, smp d = true → tl d.shown = tx d
  | .none, _ => by rw [PyData.shown, tx]; decide +kernel
  | .bool b, _ => by cases b <;> (rw [PyData.shown, tx]; decide +kernel)
  | .int i, _ => by
    rw [PyData.shown, tx]
    exact tl_int i
  | .str x, h => by
    unfold smp strSmp at h
    simp only [Bool.and_eq_true, decide_eq_true_eq] at h
    rw [PyData.shown, tx]
    exact h.1.1
  | .list xs, h => by
    have e := tl_shownAll xs h
    rw [PyData.shown, listText_eq_join, tl_append, tl_append, tl_join, e, tx, ← txs_join]
    rfl
  | .tuple xs, h => by
    have e := tl_shownAll xs h
    have el : (PyData.shownAll xs).length = xs.length := by
      have q := congrArg List.length e
      rw [List.length_map, List.length_map] at q
      exact q
    rw [PyData.shown, tupleText, tl_append, tl_append, tl_join, e, el, tx, ← txs_join]
    by_cases h1 : xs.length = 1
    · rw [if_pos h1, if_pos (by rw [h1]; rfl)]
      rfl
    · rw [if_neg h1, if_neg (by simpa using h1)]
      rfl
  | .dict kvs, h => by
    have h : kvs.isEmpty = true := h
    have e : kvs = [] := by simpa using h
    subst e
    rw [PyData.shown, tx]
    decide +kernel
theorem tl_shownAll : ∀ xs : List PyData, smpAll xs = true → (PyData.shownAll xs).map tl = xs.map tx
  | [], _ => by rw [PyData.shownAll]; rfl
  | x :: r, h => by
    unfold smpAll at h
    rw [Bool.and_eq_true] at h
    rw [PyData.shownAll, List.map_cons, List.map_cons, tl_shown x h.1, tl_shownAll r h.2]
end
/-! it can be read back -/
/-- what may follow a shown datum -/
def fol (r : List Nat) : Prop := ∀ c t, r = c :: t → c = 44 ∨ c = 41 ∨ c = 93
theorem fol_c {c : Nat} {t : List Nat} (h : c = 44 ∨ c = 41 ∨ c = 93) : fol (c :: t) := by
  intro c' t' e
  cases e
  exact h
theorem fol_nil : fol [] := fun _ _ e => nomatch e
/-- a run of p's, then none -/
theorem span_inj {p : Nat → Prop} : ∀ {a b r s : List Nat}, (∀ c ∈ a, p c) → (∀ c ∈ b, p c) → (∀ c t, r = c :: t → ¬ p c) → (∀ c t, s = c :: t → ¬ p c) → a ++ r = b ++ s → a = b ∧ r = s
  | [], [], _, _, _, _, _, _, h => ⟨rfl, h⟩
  | [], c :: b, r, s, _, hb, hr, _, h => (hr c (b ++ s) h (hb c List.mem_cons_self)).elim
  | c :: a, [], r, s, ha, _, _, hs, h => (hs c (a ++ r) h.symm (ha c List.mem_cons_self)).elim
  | c :: a, d :: b, r, s, ha, hb, hr, hs, h => by
    rw [List.cons_append, List.cons_append, List.cons.injEq] at h
    obtain ⟨h1, h2⟩ := span_inj (fun x hx => ha x (List.mem_cons_of_mem _ hx)) (fun x hx => hb x (List.mem_cons_of_mem _ hx)) hr hs h.2
    exact ⟨by rw [h.1, h1], h2⟩
theorem fol_dig {r : List Nat} (h : fol r) : ∀ c t, r = c :: t → ¬ (48 ≤ c ∧ c ≤ 57) := by
  intro c t e
  rcases h c t e with q | q | q <;> omega
theorem num_dig {n : Nat} : ∀ c ∈ numL n, 48 ≤ c ∧ c ≤ 57 := fun c hc => numL_digits n c hc
theorem intL_inj {i j : Int} {r s : List Nat} (hr : fol r) (hs : fol s) (h : intL i ++ r = intL j ++ s) : i = j ∧ r = s := by
  have first : ∀ {m n : Nat} {r s : List Nat}, fol r → fol s → numL m ++ r = numL n ++ s → m = n ∧ r = s := fun {m n r s} hr hs h => by
    obtain ⟨h1, h2⟩ := span_inj num_dig num_dig (fol_dig hr) (fol_dig hs) h
    exact ⟨numL_inj h1, h2⟩
  have no : ∀ {m n : Nat} {r s : List Nat}, numL m ++ r = 45 :: (numL n ++ s) → False := fun {m n r s} h => by
    cases e : numL m with
    | nil => exact numL_ne m e
    | cons c t =>
      have q := num_dig (n := m) c (by rw [e]; exact List.mem_cons_self)
      rw [e, List.cons_append, List.cons.injEq] at h
      omega
  cases i with
  | ofNat m =>
    cases j with
    | ofNat n =>
      obtain ⟨h1, h2⟩ := first hr hs h
      exact ⟨by rw [h1], h2⟩
    | negSucc n => exact (no h).elim
  | negSucc m =>
    cases j with
    | ofNat n => exact (no h.symm).elim
    | negSucc n =>
      have h' : numL (m + 1) ++ r = numL (n + 1) ++ s := (List.cons.inj h).2
      obtain ⟨h1, h2⟩ := first hr hs h'
      refine ⟨?_, h2⟩
      have : m = n := by omega
      rw [this]
theorem intL_first (i : Int) : ∃ c t, intL i = c :: t ∧ (c = 45 ∨ (48 ≤ c ∧ c ≤ 57)) := by
  cases i with
  | ofNat n =>
    cases e : numL n with
    | nil => exact (numL_ne n e).elim
    | cons c t => exact ⟨c, t, e, .inr (num_dig (n := n) c (by rw [e]; exact List.mem_cons_self))⟩
  | negSucc n => exact ⟨45, _, rfl, .inl rfl⟩
/-- the kind of a datum by its first sign -/
def kd : PyData → Nat
  | .none => 0
  | .bool true => 1
  | .bool false => 2
  | .int _ => 3
  | .str _ => 4
  | .list _ => 5
  | .tuple _ => 6
  | .dict _ => 7
def kdc (c : Nat) : Nat := if c = 78 then 0 else if c = 84 then 1 else if c = 70 then 2 else if c = 39 then 4 else if c = 91 then 5 else if c = 40 then 6 else if c = 123 then 7 else 3
theorem tx_first (d : PyData) : ∃ c t, tx d = c :: t ∧ kdc c = kd d ∧ c ≠ 44 ∧ c ≠ 41 ∧ c ≠ 93 := by
  cases d with
  | none => exact ⟨78, _, by rw [tx], by decide, by decide, by decide, by decide⟩
  | bool b =>
    cases b
    · exact ⟨70, _, by rw [tx], by decide, by decide, by decide, by decide⟩
    · exact ⟨84, _, by rw [tx], by decide, by decide, by decide, by decide⟩
  | int i =>
    obtain ⟨c, t, e, h⟩ := intL_first i
    refine ⟨c, t, by rw [tx]; exact e, ?_, by omega, by omega, by omega⟩
    show kdc c = 3
    unfold kdc
    rw [if_neg (by omega), if_neg (by omega), if_neg (by omega), if_neg (by omega), if_neg (by omega), if_neg (by omega), if_neg (by omega)]
  | str x => exact ⟨39, _, by rw [tx], rfl, by decide, by decide, by decide⟩
  | list xs => exact ⟨91, _, by rw [tx], rfl, by decide, by decide, by decide⟩
  | tuple xs => exact ⟨40, _, by rw [tx], rfl, by decide, by decide, by decide⟩
  | dict kvs => exact ⟨123, _, by rw [tx], rfl, by decide, by decide, by decide⟩
theorem kd_eq {d d' : PyData} {r s : List Nat} (h : tx d ++ r = tx d' ++ s) : kd d = kd d' := by
  obtain ⟨c, t, e, k, _⟩ := tx_first d
  obtain ⟨c', t', e', k', _⟩ := tx_first d'
  rw [e, e', List.cons_append, List.cons_append, List.cons.injEq] at h
  rw [← k, ← k', h.1]
/-- what may end a list of items -/
def Tl (r : List Nat) : Prop := ∀ c t, r = c :: t → c = 41 ∨ c = 93 ∨ (c = 44 ∧ ∃ t', t = 41 :: t')
theorem fol_tail : ∀ (zs : List PyData) (r : List Nat), Tl r → fol (txr zs ++ r) := fun zs r hr => by
  cases zs with
  | nil =>
    rw [txr, List.nil_append]
    intro c t e
    rcases hr c t e with q | q | ⟨q, _⟩
    · exact .inr (.inl q)
    · exact .inr (.inr q)
    · exact .inl q
  | cons z zs => rw [txr]; exact fol_c (.inl rfl)
mutual
theorem tx_inj : ∀ (d d' : PyData) (r s : List Nat), smp d = true → smp d' = true → fol r → fol s → tx d ++ r = tx d' ++ s → d = d' ∧ r = s
  | .none, d', r, s, _, _, _, _, h => by
    have k := kd_eq h
    cases d' with
    | none => exact ⟨rfl, List.append_cancel_left h⟩
    | bool b => cases b <;> cases k
    | _ => cases k
  | .bool b, d', r, s, _, _, _, _, h => by
    have k := kd_eq h
    cases d' with
    | bool b' =>
      cases b <;> cases b' <;> first | (cases k; done) | exact ⟨rfl, List.append_cancel_left h⟩
    | _ => cases b <;> cases k
  | .int i, d', r, s, _, _, hr, hs, h => by
    have k := kd_eq h
    cases d' with
    | int j =>
      rw [tx, tx] at h
      obtain ⟨h1, h2⟩ := intL_inj hr hs h
      exact ⟨by rw [h1], h2⟩
    | bool b => cases b <;> cases k
    | _ => cases k
  | .str x, d', r, s, h1, h2, _, _, h => by
    have k := kd_eq h
    cases d' with
    | str y =>
      rw [tx, tx] at h
      unfold smp strSmp at h1 h2
      simp only [Bool.and_eq_true, decide_eq_true_eq, Bool.not_eq_true', List.contains_eq_mem, decide_eq_false_iff_not] at h1 h2
      have h' : tl x ++ (39 :: r) = tl y ++ (39 :: s) := by simpa using h
      obtain ⟨e1, e2⟩ := span_inj (p := fun c => c ≠ 39) (fun c hc z => h1.1.2 (z ▸ hc)) (fun c hc z => h2.1.2 (z ▸ hc)) (fun c t e z => by cases e; exact z rfl) (fun c t e z => by cases e; exact z rfl) h'
      exact ⟨by rw [ext_tl e1], (List.cons.inj e2).2⟩
    | bool b => cases b <;> cases k
    | _ => cases k
  | .list xs, d', r, s, h1, h2, _, _, h => by
    have k := kd_eq h
    cases d' with
    | list ys =>
      rw [tx, tx] at h
      have h' : txs xs ++ ([93] ++ r) = txs ys ++ ([93] ++ s) := by simpa using h
      obtain ⟨e1, e2⟩ := txs_inj xs ys _ _ h1 h2 (fun c t e => by cases e; exact .inr (.inl rfl)) (fun c t e => by cases e; exact .inr (.inl rfl)) h'
      exact ⟨by rw [e1], by simpa using e2⟩
    | bool b => cases b <;> cases k
    | _ => cases k
  | .tuple xs, d', r, s, h1, h2, _, _, h => by
    have k := kd_eq h
    cases d' with
    | tuple ys =>
      rw [tx, tx] at h
      have h' : txs xs ++ ((if xs.length = 1 then [44, 41] else [41]) ++ r) = txs ys ++ ((if ys.length = 1 then [44, 41] else [41]) ++ s) := by simpa using h
      have tl : ∀ (n : Nat) (r : List Nat), Tl ((if n = 1 then [44, 41] else [41]) ++ r) := fun n r c t e => by
        by_cases hn : n = 1
        · rw [if_pos hn] at e
          cases e
          exact .inr (.inr ⟨rfl, _, rfl⟩)
        · rw [if_neg hn] at e
          cases e
          exact .inl rfl
      obtain ⟨e1, e2⟩ := txs_inj xs ys _ _ h1 h2 (tl _ _) (tl _ _) h'
      subst e1
      exact ⟨rfl, List.append_cancel_left e2⟩
    | bool b => cases b <;> cases k
    | _ => cases k
  | .dict kvs, d', r, s, h1, h2, _, _, h => by
    have k := kd_eq h
    cases d' with
    | dict kvs' =>
      have e1 : kvs = [] := by simpa [smp] using h1
      have e2 : kvs' = [] := by simpa [smp] using h2
      rw [tx, tx] at h
      exact ⟨by rw [e1, e2], List.append_cancel_left h⟩
    | bool b => cases b <;> cases k
    | _ => cases k
theorem txs_inj : ∀ (xs ys : List PyData) (r s : List Nat), smpAll xs = true → smpAll ys = true → Tl r → Tl s → txs xs ++ r = txs ys ++ s → xs = ys ∧ r = s
  | [], [], r, s, _, _, _, _, h => ⟨rfl, by simpa [txs] using h⟩
  | [], y :: ys, r, s, _, _, hr, _, h => by
    obtain ⟨c, t, e, _, n1, n2, n3⟩ := tx_first y
    rw [txs, txs, e, List.nil_append, List.cons_append, List.cons_append] at h
    rcases hr _ _ h with q | q | ⟨q, _⟩ <;> exact absurd q (by assumption)
  | x :: xs, [], r, s, _, _, _, hs, h => by
    obtain ⟨c, t, e, _, n1, n2, n3⟩ := tx_first x
    rw [txs, txs, e, List.nil_append, List.cons_append, List.cons_append] at h
    rcases hs _ _ h.symm with q | q | ⟨q, _⟩ <;> exact absurd q (by assumption)
  | x :: xs, y :: ys, r, s, h1, h2, hr, hs, h => by
    unfold smpAll at h1 h2
    rw [Bool.and_eq_true] at h1 h2
    rw [txs, txs, List.append_assoc, List.append_assoc] at h
    obtain ⟨e1, e2⟩ := tx_inj x y _ _ h1.1 h2.1 (fol_tail xs r hr) (fol_tail ys s hs) h
    obtain ⟨e3, e4⟩ := txr_inj xs ys r s h1.2 h2.2 hr hs e2
    exact ⟨by rw [e1, e3], e4⟩
theorem txr_inj : ∀ (xs ys : List PyData) (r s : List Nat), smpAll xs = true → smpAll ys = true → Tl r → Tl s → txr xs ++ r = txr ys ++ s → xs = ys ∧ r = s
  | [], [], r, s, _, _, _, _, h => ⟨rfl, by simpa [txr] using h⟩
  | [], y :: ys, r, s, _, _, hr, _, h => by
    rw [txr, txr, List.nil_append] at h
    rcases hr _ _ h with q | q | ⟨_, _, q⟩ <;> cases q
  | x :: xs, [], r, s, _, _, _, hs, h => by
    rw [txr, txr, List.nil_append] at h
    rcases hs _ _ h.symm with q | q | ⟨_, _, q⟩ <;> cases q
  | x :: xs, y :: ys, r, s, h1, h2, hr, hs, h => by
    unfold smpAll at h1 h2
    rw [Bool.and_eq_true] at h1 h2
    rw [txr, txr] at h
    simp only [List.cons_append, List.cons.injEq, true_and, List.append_assoc] at h
    obtain ⟨e1, e2⟩ := tx_inj x y _ _ h1.1 h2.1 (fol_tail xs r hr) (fol_tail ys s hs) h
    obtain ⟨e3, e4⟩ := txr_inj xs ys r s h1.2 h2.2 hr hs e2
    exact ⟨by rw [e1, e3], e4⟩
end
/-- repr tells data apart -/
theorem shown_inj {d d' : PyData} (h : smp d = true) (h' : smp d' = true) (e : d.shown = d'.shown) : d = d' := by
  have q := congrArg tl e
  rw [tl_shown d h, tl_shown d' h'] at q
  exact (tx_inj d d' [] [] h h' fol_nil fol_nil (by rw [q])).1
/-- the text is of real signs -/
theorem intL_ok (i : Int) : ∀ c ∈ intL i, c < 0x110000 := by
  intro c hc
  cases i with
  | ofNat n =>
    have := num_dig c hc
    omega
  | negSucc n =>
    rcases List.mem_cons.mp hc with e | e
    · omega
    · have := num_dig c e
      omega
mutual
theorem tx_ok : ∀ d : PyData, smp d = true → ∀ c ∈ tx d, c < 0x110000
  | .none, _, c, hc => by
    rw [tx] at hc
    revert c
    decide
  | .bool b, _, c, hc => by
    cases b <;> (rw [tx] at hc; revert c; decide)
  | .int i, _, c, hc => by
    rw [tx] at hc
    exact intL_ok i c hc
  | .str x, h, c, hc => by
    unfold smp strSmp at h
    simp only [Bool.and_eq_true, decide_eq_true_eq, List.all_eq_true] at h
    rw [tx] at hc
    simp only [List.mem_cons, List.mem_append, List.not_mem_nil, or_false] at hc
    rcases hc with e | e | e
    · omega
    · exact h.2 c e
    · omega
  | .list xs, h, c, hc => by
    rw [tx] at hc
    simp only [List.mem_cons, List.mem_append, List.not_mem_nil, or_false] at hc
    rcases hc with e | e | e
    · omega
    · exact txs_ok xs h c e
    · omega
  | .tuple xs, h, c, hc => by
    rw [tx] at hc
    simp only [List.mem_cons, List.mem_append] at hc
    rcases hc with e | e | e
    · omega
    · exact txs_ok xs h c e
    · split at e
      · simp only [List.mem_cons, List.not_mem_nil, or_false] at e
        omega
      · simp only [List.mem_cons, List.not_mem_nil, or_false] at e
        omega
  | .dict kvs, _, c, hc => by
    rw [tx] at hc
    revert c
    decide
theorem txs_ok : ∀ xs : List PyData, smpAll xs = true → ∀ c ∈ txs xs, c < 0x110000
  | [], _, c, hc => by
    rw [txs] at hc
    cases hc
  | x :: r, h, c, hc => by
    unfold smpAll at h
    rw [Bool.and_eq_true] at h
    rw [txs] at hc
    rcases List.mem_append.mp hc with e | e
    · exact tx_ok x h.1 c e
    · exact txr_ok r h.2 c e
theorem txr_ok : ∀ xs : List PyData, smpAll xs = true → ∀ c ∈ txr xs, c < 0x110000
  | [], _, c, hc => by
    rw [txr] at hc
    cases hc
  | x :: r, h, c, hc => by
    unfold smpAll at h
    rw [Bool.and_eq_true] at h
    rw [txr] at hc
    simp only [List.mem_cons, List.mem_append] at hc
    rcases hc with e | e | e | e
    · omega
    · omega
    · exact tx_ok x h.1 c e
    · exact txr_ok r h.2 c e
end
theorem shown_ok {d : PyData} (h : smp d = true) : PyData.strOk d.shown = true := by
  have q := tx_ok d h
  rw [← tl_shown d h] at q
  unfold PyData.strOk
  rw [← Array.all_toList, List.all_eq_true]
  intro c hc
  exact decide_eq_true (q c hc)
variable {M : Mem}
/-- reprs compared -/
theorem rep_eqv {d d' : PyData} (h : smp d = true) (h' : smp d' = true) {b : Bool} (hb : b = true ↔ d = d') : PyData.eqv (.str d.shown) (.str d'.shown) = b := by
  show (d.shown == d'.shown) = _
  cases b with
  | true =>
    rw [hb.mp rfl]
    exact beq_self_eq_true _
  | false => exact beq_false_of_ne fun z => Bool.false_ne_true (hb.mpr (shown_inj h h' z))
theorem shp_rep {d : PyData} (h : smp d = true) : SeqAt.shaped (.str d.shown) = true := by
  simp [SeqAt.shaped, PyData.canLay0, PyData.depth, shown_ok h]
theorem eq_rep {n : Bool} {d d' : PyData} (h : smp d = true) (h' : smp d' = true) {b : Bool} (hb : b = true ↔ d = d') : sEq n (.rep d) (.rep d') M = some (.bl (xor n b), M) := by
  rw [eq_data (p := .str d.shown) (q := .str d'.shown) rfl rfl (shp_rep h) (shp_rep h') (fun _ _ z _ => by cases z), rep_eqv h h' hb]
theorem eq_same {n : Bool} {d : PyData} (h : smp d = true) : sEq n (.rep d) (.rep d) M = some (.bl (!n), M) := by
  rw [eq_rep h h (b := true) ⟨fun _ => rfl, fun _ => rfl⟩, Bool.xor_true]
/-- a repr among reprs -/
theorem in_rep {n : Bool} {d : PyData} {ds : List PyData} (h : smp d = true) (hs : ∀ x ∈ ds, smp x = true) {b : Bool} (hb : b = true ↔ d ∈ ds) : sIn n (.rep d) (.lst (ds.map .rep)) M = some (.bl (xor n b), M) := by
  have e : datM 32 M (.lst (ds.map .rep)) = some (.list (ds.map fun x => .str x.shown)) := by
    have : ∀ l : List PyData, allO ((l.map Z.rep).map (datM 31 M)) = some (l.map fun x => PyData.str x.shown) := fun l => by
      induction l with
      | nil => rfl
      | cons x r ih =>
        rw [List.map_cons, List.map_cons]
        show allO (some (PyData.str x.shown) :: _) = _
        unfold allO
        rw [ih]
        rfl
    show (allO ((ds.map Z.rep).map (datM 31 M))).map PyData.list = _
    rw [this]
    rfl
  have sh : SeqAt.shaped (.list (ds.map fun x => .str x.shown)) = true := by
    have h1 : PyData.canLayAll0 (ds.map fun x => PyData.str x.shown) = true := canAll fun y hy => by
      obtain ⟨x, hx, rfl⟩ := List.mem_map.mp hy
      exact shown_ok (hs x hx)
    have h2 : PyData.depthAll (ds.map fun x => PyData.str x.shown) ≤ 0 := depAll fun y hy => by
      obtain ⟨x, hx, rfl⟩ := List.mem_map.mp hy
      exact Nat.le_refl _
    show (PyData.canLayAll0 _ && decide (PyData.depthAll _ + 1 ≤ 64)) = true
    rw [h1, decide_eq_true (by omega)]
    rfl
  unfold sIn
  split
  · rename_i l z
    cases z
  · have e0 : datM 32 M (.rep d) = some (.str d.shown) := rfl
    rw [e0, e]
    dsimp only
    rw [shp_rep h, sh]
    have eb : ((ds.map fun x => PyData.str x.shown).any fun z => PyData.eqv z (.str d.shown)) = b := by
      rw [List.any_map]
      cases b with
      | true =>
        rw [List.any_eq_true]
        exact ⟨d, hb.mp rfl, rep_eqv h h (b := true) ⟨fun _ => rfl, fun _ => rfl⟩⟩
      | false =>
        rw [List.any_eq_false]
        intro x hx z
        have q : x.shown = d.shown := eq_of_beq z
        exact Bool.false_ne_true (hb.mpr ((shown_inj (hs x hx) h q) ▸ hx))
    rw [eb]
    rfl
end ZM
end
section
namespace K15
open PySem L2 ZM PyProof.Rows
/-! ### the text by places; what the machine says of it (printed by wip/gen.py) -/
def top (i : Nat) : Stmt := PySem.Challenge.pw_supermoves_k15_whole_what_bars.main.body.getD i (.Pass ⟨0, 0, 0, 0⟩)
def con_KINDS : Z := .tup [.str "over", .str "into", .str "whole"]
def G : Glb := [(("int" : Str), GV.blt), (("isinstance" : Str), GV.blt), (("len" : Str), GV.blt), (("max" : Str), GV.blt), (("range" : Str), GV.blt), (("repr" : Str), GV.blt), (("sum" : Str), GV.blt), (("bool" : Str), GV.ty .bool), (("int" : Str), GV.ty .int), (("list" : Str), GV.ty .lst), (("str" : Str), GV.ty .str), (("tuple" : Str), GV.ty .tup), (("KINDS" : Str), GV.con con_KINDS), (("law" : Str), GV.fn 0), (("_law_generator" : Str), GV.fn 1), (("_law_kind" : Str), GV.fn 2), (("_law_room" : Str), GV.fn 3), (("_law_great" : Str), GV.fn 4), (("_law_bound" : Str), GV.fn 5), (("_law_right" : Str), GV.fn 6), (("_law_random" : Str), GV.fn 7), (("barring" : Str), GV.fn 8), (("first_bar" : Str), GV.fn 9), (("_law_cell" : Str), GV.fn 10), (("_law_tops" : Str), GV.fn 11), (("_law_barring" : Str), GV.fn 12), (("barring" : Str), GV.fn 13), (("can_pass" : Str), GV.fn 14), (("_law_stretches" : Str), GV.fn 15), (("is_bar" : Str), GV.fn 16), (("_law_hash" : Str), GV.fn 17), (("check_all" : Str), GV.fn 18), (("barring_in" : Str), GV.fn 19), (("bars_in" : Str), GV.fn 20), (("barring_in" : Str), GV.fn 21), (("goes_in" : Str), GV.fn 22), (("is_between" : Str), GV.fn 23), (("check_kind" : Str), GV.fn 24), (("check_room" : Str), GV.fn 25), (("check_number" : Str), GV.fn 26), (("bound_in" : Str), GV.fn 27), (("stretches_in" : Str), GV.fn 28), (("is_whole" : Str), GV.fn 29), (("kind_fits" : Str), GV.fn 30), (("room_fits" : Str), GV.fn 31), (("marks_in" : Str), GV.fn 32)]
theorem gz_bool : G.z 7 = .ty .bool := rfl
theorem gz_int : G.z 8 = .ty .int := rfl
theorem gz_list : G.z 9 = .ty .lst := rfl
theorem gz_str : G.z 10 = .ty .str := rfl
theorem gz_tuple : G.z 11 = .ty .tup := rfl
theorem gz_KINDS : G.z 12 = con_KINDS := rfl
def c0_0 : E := .comp false (.op (.add false) (.var 7) (.c (.int 1))) (.name 7) .list [(.ix (.var 4) (.c (.int 2)))] []
def c0_1 : E := .comp false (.op (.mul false) (.var 7) (.c (.int 2))) (.name 7) .list [(.ix (.var 4) (.c (.int 2)))] []
def c0_2 : List S := [.ife (.not (.call 19 6 [(.var 3), (.var 4), (.ix (.var 5) (.call 20 7 [(.var 2), (.bi .len [(.var 5)])]))])) [.ret (.c (.bl false))] []]
def c0_3 : S := .for_ (.name 6) .range1 [(.c (.int 4))] c0_2
def c0_4 : List S := [.asg (.name 2) (.call 14 1 [(.var 0), (.var 1)]),
    .asg (.name 3) (.call 15 2 [(.var 2)]),
    .asg (.name 4) (.ite (.cmp .lt (.var 1) (.c (.int 2))) (.call 16 3 [(.var 2), (.c (.int 9))]) (.call 17 4 [(.var 2)])),
    .asg (.name 5) (.op (.add false) (.op (.add false) (.op (.add false) (.lst false [(.c (.int 1)), (.c (.int 5)), (.c (.int 9)), (.op (.add false) (.call 18 5 [(.var 3), (.var 4)]) (.c (.int 1)))]) (.ix (.var 4) (.c (.int 2)))) c0_0) c0_1),
    c0_3]
def c0_5 : S := .for_ (.name 1) .range1 [(.c (.int 5))] c0_4
/-- law -/
def c0 : ZM.Code := ⟨["script", "index", "generator", "kind", "room", "menu", "turn", "top"], [c0_5,
    .ife (.or (.cmp .ne (.call 21 8 [(.c (.str "over")), (.tup [(.c (.int 0)), (.c (.int 1)), (.lst false [(.c (.int 3)), (.c (.int 8))])]), (.c (.int 12))]) (.lst false [(.tup [(.c (.int 0)), (.c (.int 3))]), (.tup [(.c (.int 3)), (.c (.int 8))]), (.tup [(.c (.int 8)), (.c (.int 12))])])) (.cmp .isNot (.call 22 9 [(.c (.str "whole")), (.tup [(.c (.int 1)), (.c (.int 1)), (.lst false [(.c (.int 4)), (.c (.int 8))])]), (.c (.int 12))]) (.c .non))) [.ret (.c (.bl false))] [],
    .ret (.and (.cmp .eq (.call 22 9 [(.c (.str "into")), (.tup [(.c (.int 2)), (.c (.int 0)), (.lst false [(.c (.int 1))])]), (.c (.int 1))]) (.tup [(.c (.int 0)), (.c (.int 1))])) (.cmp .eq (.call 21 8 [(.c (.str "over")), (.tup [(.c (.int 0)), (.c (.int 1)), (.lst false [(.c (.int 3)), (.c (.int 12))])]), (.c (.int 12))]) (.lst false [(.tup [(.c (.int 0)), (.c (.int 3))]), (.tup [(.c (.int 3)), (.c (.int 12))])])))]⟩
/-- _law_generator -/
def c1 : ZM.Code := ⟨["script", "index", "seed"], [.asg (.name 2) (.call 23 10 [(.var 0), (.var 1)]),
    .ret (.lst true [(.op .mod (.bi .int [(.bi .max [(.op .sub (.var 2) (.op .pow (.c (.int 10)) (.c (.int 18)))), (.c (.int 0))])]) (.op .pow (.op .pow (.c (.int 10)) (.c (.int 60))) (.c (.int 10)))), (.op .mod (.bi .int [(.var 2)]) (.c (.int 2147483647))), (.op (.mul false) (.c (.int 1000)) (.var 1))])]⟩
/-- _law_kind -/
def c2 : ZM.Code := ⟨["generator"], [.ret (.ix (.lst false [(.c (.str "over")), (.c (.str "into")), (.c (.str "whole"))]) (.call 20 7 [(.var 0), (.c (.int 3))]))]⟩
/-- _law_room -/
def c3 : ZM.Code := ⟨["generator", "many"], [.ret (.tup [(.call 20 7 [(.var 0), (.c (.int 3))]), (.call 20 7 [(.var 0), (.c (.int 3))]), (.call 24 11 [(.var 0), (.var 1), (.c (.int 2))])])]⟩
def c4_0 : List S := [.asg (.name 2) (.op (.add false) (.op (.add false) (.var 2) (.c (.int 1))) (.call 20 7 [(.var 0), (.ix (.lst false [(.c (.int 10)), (.op .pow (.c (.int 10)) (.c (.int 6))), (.op .pow (.c (.int 10)) (.c (.int 24)))]) (.call 20 7 [(.var 0), (.c (.int 3))]))])),
    .ex (.me .append (.var 1) [(.var 2)])]
def c4_1 : S := .for_ (.name 3) .range1 [(.call 20 7 [(.var 0), (.c (.int 8))])] c4_0
/-- _law_great -/
def c4 : ZM.Code := ⟨["generator", "tops", "here", "turn"], [.par [1, 2] [(.lst true []), (.c (.int 0))],
    c4_1,
    .ret (.tup [(.call 20 7 [(.var 0), (.ix (.lst false [(.c (.int 4)), (.op .pow (.c (.int 10)) (.c (.int 6))), (.op .pow (.c (.int 10)) (.c (.int 10)))]) (.call 20 7 [(.var 0), (.c (.int 3))]))]), (.call 20 7 [(.var 0), (.ix (.lst false [(.c (.int 4)), (.c (.int 12)), (.c (.int 60))]) (.call 20 7 [(.var 0), (.c (.int 3))]))]), (.frz (.var 1))])]⟩
/-- _law_bound -/
def c5 : ZM.Code := ⟨["kind", "room", "cells", "empty", "tops"], [.asg (.tup [(.name 2), (.name 3), (.name 4)]) (.var 1),
    .ife (.and (.cmp .eq (.var 0) (.c (.str "into"))) (.cmp .eq (.var 3) (.c (.int 0)))) [.ret (.c (.int 0))] [],
    .ret (.op (.mul false) (.op (.add false) (.var 2) (.c (.int 1))) (.op .shl (.c (.int 1)) (.op .sub (.var 3) (.bi .int [(.cmp .eq (.var 0) (.c (.str "into")))]))))]⟩
def c6_0 : List S := [.asg (.name 7) (.op (.add false) (.var 7) (.lst false [(.tup [(.var 8), (.var 9)]), (.tup [(.op (.add false) (.var 8) (.c (.int 1))), (.var 9)]), (.tup [(.var 8), (.op .sub (.var 9) (.c (.int 1)))]), (.tup [(.var 8), (.op (.add false) (.var 9) (.c (.int 1)))]), (.lst false [(.var 8), (.var 9)]), (.tup [(.var 9), (.var 8)])]))]
def c6_1 : S := .for_ (.tup [(.name 8), (.name 9)]) .list [(.op (.add false) (.call 28 15 [(.ix (.var 1) (.c (.int 2))), (.var 2)]) (.var 3))] c6_0
def c6_2 : E := .comp false (.bi .repr [(.var 13)]) (.name 13) .list [(.var 3)] []
def c6_3 : List S := [.par [11, 12] [(.bi .repr [(.var 10)]), (.cmp .in (.bi .repr [(.var 10)]) c6_2)],
    .ife (.or (.cmp .ne (.bi .repr [(.call 29 16 [(.var 0), (.var 1), (.var 2), (.var 10)])]) (.bi .repr [(.var 12)])) (.cmp .ne (.bi .repr [(.var 10)]) (.var 11))) [.ret (.c (.bl false))] []]
def c6_4 : S := .for_ (.name 10) .list [(.var 7)] c6_3
/-- _law_right -/
def c6 : ZM.Code := ⟨["kind", "room", "many", "due", "kept", "told", "first", "tried", "low", "high", "value", "given", "right", "item"], [.par [3, 4] [(.call 25 12 [(.var 0), (.var 1), (.var 2)]), (.bi .repr [(.var 1)])],
    .asg (.name 5) (.call 26 13 [(.var 0), (.var 1), (.var 2)]),
    .ife (.or (.not (.bi .isi [(.var 5), (.gv 9)])) (.or (.cmp .ne (.bi .repr [(.var 5)]) (.bi .repr [(.var 3)])) (.cmp .ne (.bi .repr [(.callK 21 8 0 [(.var 2), (.var 1), (.var 0)] [2, 1, 0])]) (.bi .repr [(.var 3)])))) [.ret (.c (.bl false))] [],
    .asg (.name 6) (.ite (.cmp .ne (.var 3) (.lst false [])) (.ix (.var 3) (.c (.int 0))) (.c .non)),
    .ife (.or (.cmp .ne (.bi .repr [(.call 22 9 [(.var 0), (.var 1), (.var 2)])]) (.bi .repr [(.var 6)])) (.cmp .ne (.bi .repr [(.callK 22 9 0 [(.var 2), (.var 1), (.var 0)] [2, 1, 0])]) (.bi .repr [(.var 6)]))) [.ret (.c (.bl false))] [],
    .ife (.and (.cmp .isNot (.call 27 14 [(.var 0), (.var 1), (.var 2)]) (.c (.bl true))) (.cmp .eq (.var 3) (.lst false []))) [.ret (.c (.bl false))] [],
    .asg (.name 7) (.lst false [(.c .non), (.tup []), (.lst false []), (.c (.int 5)), .dic0, (.tup [(.c (.int 0))]), (.tup [(.c (.int 0)), (.var 2), (.c (.int 0))]), (.lst false [(.c (.int 0)), (.var 2)]), (.tup [(.var 2), (.c (.int 0))]), (.tup [(.c (.int 0)), (.c .non)]), (.tup [(.c (.str "0")), (.var 2)]), (.tup [(.c (.bl false)), (.var 2)]), (.tup [(.c (.int 0)), (.c (.bl true))]), (.tup [(.lst false [(.c (.int 0))]), (.var 2)])]),
    c6_1,
    c6_4,
    .ife (.and (.cmp .ne (.var 3) (.lst false [])) (.cmp .isNot (.callK 29 16 0 [(.ix (.var 3) (.neg (.c (.int 1)))), (.var 2), (.var 1), (.var 0)] [3, 2, 1, 0]) (.c (.bl true)))) [.ret (.c (.bl false))] [],
    .ex (.me .append (.var 5) [(.c .non)]),
    .ret (.and (.cmp .eq (.call 21 8 [(.var 0), (.var 1), (.var 2)]) (.var 3)) (.cmp .eq (.bi .repr [(.var 1)]) (.var 4)))]⟩
def c7_0 : List S := [.setIx (.var 0) (.c (.int 2)) (.op (.add false) (.ix (.var 0) (.c (.int 2))) (.c (.int 1))),
    .asg (.name 2) (.op (.add false) (.op (.mul false) (.var 2) (.c (.int 2147483587))) (.call 30 17 [(.ix (.var 0) (.c (.int 1))), (.ix (.var 0) (.c (.int 2)))]))]
def c7_1 : S := .for_ (.name 3) .range1 [(.op (.add false) (.c (.int 1)) (.op .fdiv (.me .bits (.var 1) []) (.c (.int 30))))] c7_0
/-- _law_random -/
def c7 : ZM.Code := ⟨["generator", "limit", "drawn", "turn"], [.ife (.cmp .gt (.ix (.var 0) (.c (.int 0))) (.c (.int 0))) [.asg (.name 2) (.op .mod (.bi .int [(.ix (.var 0) (.c (.int 0)))]) (.var 1)),
    .setIx (.var 0) (.c (.int 0)) (.op .fdiv (.ix (.var 0) (.c (.int 0))) (.var 1)),
    .ret (.var 2)] [],
    .asg (.name 2) (.c (.int 0)),
    c7_1,
    .ret (.op .mod (.bi .int [(.var 2)]) (.var 1))]⟩
/-- barring -/
def c8 : ZM.Code := ⟨["kind", "room", "many"], [.ex (.call 31 18 [(.var 0), (.var 1), (.var 2)]),
    .ret (.call 32 19 [(.var 0), (.var 1), (.var 2)])]⟩
/-- first_bar -/
def c9 : ZM.Code := ⟨["kind", "room", "many"], [.ex (.call 31 18 [(.var 0), (.var 1), (.var 2)]),
    .ret (.call 33 20 [(.var 0), (.var 1), (.var 2)])]⟩
/-- _law_cell -/
def c10 : ZM.Code := ⟨["script", "index"], [.ife (.cmp .lt (.var 1) (.bi .len [(.var 0)])) [.ret (.ix (.var 0) (.var 1))] [],
    .ret (.op .mod (.bi .sum [(.slB false (.var 0) (.c (.int 1)))]) (.c (.int 1000003)))]⟩
def c11_0 : E := .comp false (.var 3) (.name 3) .range2 [(.c (.int 1)), (.op (.add false) (.var 1) (.c (.int 1)))] [(.cmp .lt (.call 20 7 [(.var 0), (.var 1)]) (.var 2))]
/-- _law_tops -/
def c11 : ZM.Code := ⟨["generator", "many", "most", "top"], [.ret c11_0]⟩
def c12_0 : E := .comp false (.tup [(.var 3), (.var 4)]) (.tup [(.name 3), (.name 4)]) .list [(.call 28 15 [(.ix (.var 1) (.c (.int 2))), (.var 2)])] [(.cmp .gt (.op .sub (.var 4) (.var 3)) (.call 18 5 [(.var 0), (.var 1)]))]
/-- _law_barring -/
def c12 : ZM.Code := ⟨["kind", "room", "many", "low", "high"], [.ret c12_0]⟩
/-- barring.m -/
def c13 : ZM.Code := ⟨["kind", "room", "many"], [.ex (.call 31 18 [(.var 0), (.var 1), (.var 2)]),
    .ret (.call 34 21 [(.var 0), (.var 1), (.var 2)])]⟩
/-- can_pass -/
def c14 : ZM.Code := ⟨["kind", "room", "many"], [.ex (.call 31 18 [(.var 0), (.var 1), (.var 2)]),
    .ret (.call 35 22 [(.var 0), (.var 1), (.var 2)])]⟩
def c15_0 : E := .comp false (.var 4) (.name 4) .list [(.var 0)] [(.cmp .lt (.var 4) (.var 1))]
def c15_1 : E := .comp false (.tup [(.ix (.var 2) (.var 3)), (.ix (.var 2) (.op (.add false) (.var 3) (.c (.int 1))))]) (.name 3) .range1 [(.op .sub (.bi .len [(.var 2)]) (.c (.int 1)))] []
/-- _law_stretches -/
def c15 : ZM.Code := ⟨["tops", "many", "marks", "at", "top"], [.asg (.name 2) (.op (.add false) (.op (.add false) (.lst false [(.c (.int 0))]) c15_0) (.lst false [(.var 1)])),
    .ret c15_1]⟩
def c16_0 : E := .comp false (.var 4) (.name 4) .tup [(.var 3)] [(.not (.call 36 23 [(.var 4), (.c (.int 0)), (.var 2)]))]
/-- is_bar -/
def c16 : ZM.Code := ⟨["kind", "room", "many", "value", "item"], [.ex (.call 31 18 [(.var 0), (.var 1), (.var 2)]),
    .ife (.or (.not (.bi .isi [(.var 3), (.gv 11)])) (.cmp .ne c16_0 (.lst false []))) [.ret (.c (.bl false))] [],
    .ret (.cmp .in (.var 3) (.call 32 19 [(.var 0), (.var 1), (.var 2)]))]⟩
/-- _law_hash -/
def c17 : ZM.Code := ⟨["seed", "index", "mixed"], [.asg (.name 2) (.op .mod (.bi .int [(.op (.add false) (.op (.add false) (.op (.add false) (.op (.mul false) (.var 0) (.c (.int 1140671))) (.op (.mul false) (.op (.mul false) (.c (.int 27644437)) (.var 1)) (.var 1))) (.op (.mul false) (.c (.int 131)) (.var 1))) (.c (.int 19)))]) (.c (.int 2147483629))),
    .asg (.name 2) (.op .mod (.bi .int [(.op (.add false) (.op (.add false) (.op (.mul false) (.var 2) (.var 2)) (.op (.mul false) (.c (.int 62089)) (.var 1))) (.c (.int 32416187)))]) (.c (.int 2147483587))),
    .ret (.op .mod (.bi .int [(.op (.mul false) (.var 2) (.c (.int 48271)))]) (.c (.int 2147483647)))]⟩
/-- check_all -/
def c18 : ZM.Code := ⟨["kind", "room", "many"], [.ex (.call 37 24 [(.var 0)]),
    .ex (.call 38 25 [(.var 1)]),
    .ex (.call 39 26 [(.var 2), (.c (.int 1)), (.c .non)])]⟩
def c19_0 : E := .comp false (.tup [(.var 4), (.var 5)]) (.tup [(.name 4), (.name 5)]) .list [(.call 41 28 [(.ix (.var 1) (.c (.int 2))), (.var 2)])] [(.cmp .gt (.op .sub (.var 5) (.var 4)) (.var 3))]
/-- barring_in -/
def c19 : ZM.Code := ⟨["kind", "room", "many", "most", "low", "high"], [.asg (.name 3) (.call 40 27 [(.var 0), (.var 1)]),
    .ret c19_0]⟩
/-- bars_in -/
def c20 : ZM.Code := ⟨["kind", "room", "many", "found"], [.asg (.name 3) (.call 32 19 [(.var 0), (.var 1), (.var 2)]),
    .ret (.ite (.cmp .ne (.var 3) (.lst false [])) (.ix (.var 3) (.c (.int 0))) (.c .non))]⟩
def c21_0 : E := .comp true (.tup [(.var 4), (.var 5)]) (.tup [(.name 4), (.name 5)]) .list [(.call 41 28 [(.ix (.var 1) (.c (.int 2))), (.var 2)])] [(.cmp .gt (.op .sub (.var 5) (.var 4)) (.var 3))]
/-- barring_in.m -/
def c21 : ZM.Code := ⟨["kind", "room", "many", "most", "low", "high"], [.asg (.name 3) (.call 40 27 [(.var 0), (.var 1)]),
    .ret c21_0]⟩
/-- goes_in -/
def c22 : ZM.Code := ⟨["kind", "room", "many"], [.ret (.cmp .eq (.call 32 19 [(.var 0), (.var 1), (.var 2)]) (.lst false []))]⟩
/-- is_between -/
def c23 : ZM.Code := ⟨["value", "low", "high"], [.ife (.not (.call 42 29 [(.var 0)])) [.ret (.c (.bl false))] [],
    .ret (.and (.or (.cmp .is (.var 1) (.c .non)) (.cmp .ge (.var 0) (.var 1))) (.or (.cmp .is (.var 2) (.c .non)) (.cmp .le (.var 0) (.var 2))))]⟩
/-- check_kind -/
def c24 : ZM.Code := ⟨["kind"], [.ife (.not (.call 43 30 [(.var 0)])) [.nev] []]⟩
/-- check_room -/
def c25 : ZM.Code := ⟨["room"], [.ife (.not (.call 44 31 [(.var 0)])) [.nev] []]⟩
/-- check_number -/
def c26 : ZM.Code := ⟨["number", "low", "high"], [.ife (.not (.call 36 23 [(.var 0), (.var 1), (.var 2)])) [.nev] []]⟩
/-- bound_in -/
def c27 : ZM.Code := ⟨["kind", "room", "cells", "empty", "_"], [.asg (.tup [(.name 2), (.name 3), (.name 4)]) (.var 1),
    .ife (.cmp .eq (.var 0) (.c (.str "into"))) [.ret (.ite (.cmp .gt (.var 3) (.c (.int 0))) (.op .shl (.op (.add false) (.var 2) (.c (.int 1))) (.op .sub (.var 3) (.c (.int 1)))) (.c (.int 0)))] [],
    .ret (.op .shl (.op (.add false) (.var 2) (.c (.int 1))) (.var 3))]⟩
def c28_0 : E := .comp false (.tup [(.ix (.var 2) (.op .sub (.var 3) (.c (.int 1)))), (.ix (.var 2) (.var 3))]) (.name 3) .range2 [(.c (.int 1)), (.bi .len [(.var 2)])] []
/-- stretches_in -/
def c28 : ZM.Code := ⟨["tops", "many", "marks", "at"], [.asg (.name 2) (.call 45 32 [(.var 0), (.var 1)]),
    .ret c28_0]⟩
/-- is_whole -/
def c29 : ZM.Code := ⟨["value"], [.ret (.and (.bi .isi [(.var 0), (.gv 8)]) (.not (.bi .isi [(.var 0), (.gv 7)])))]⟩
/-- kind_fits -/
def c30 : ZM.Code := ⟨["value"], [.ret (.and (.bi .isi [(.var 0), (.gv 10)]) (.cmp .in (.var 0) (.gv 12)))]⟩
def c31_0 : E := .comp false (.var 4) (.name 4) .list [(.var 3)] [(.not (.call 36 23 [(.var 4), (.c (.int 1)), (.c .non)]))]
def c31_1 : E := .comp false (.var 5) (.name 5) .range2 [(.c (.int 1)), (.bi .len [(.var 3)])] [(.cmp .ge (.ix (.var 3) (.op .sub (.var 5) (.c (.int 1)))) (.ix (.var 3) (.var 5)))]
/-- room_fits -/
def c31 : ZM.Code := ⟨["value", "cells", "empty", "tops", "card", "at"], [.ife (.or (.not (.bi .isi [(.var 0), (.gv 11)])) (.or (.cmp .ne (.bi .len [(.var 0)]) (.c (.int 3))) (.not (.bi .isi [(.ix (.var 0) (.c (.int 2))), (.gv 9)])))) [.ret (.c (.bl false))] [],
    .asg (.tup [(.name 1), (.name 2), (.name 3)]) (.var 0),
    .ife (.or (.not (.call 36 23 [(.var 1), (.c (.int 0)), (.c .non)])) (.not (.call 36 23 [(.var 2), (.c (.int 0)), (.c .non)]))) [.ret (.c (.bl false))] [],
    .ife (.cmp .ne c31_0 (.lst false [])) [.ret (.c (.bl false))] [],
    .ret (.cmp .eq c31_1 (.lst false []))]⟩
def c32_0 : E := .comp false (.var 2) (.name 2) .list [(.var 0)] [(.cmp .lt (.var 2) (.var 1))]
/-- marks_in -/
def c32 : ZM.Code := ⟨["tops", "many", "top"], [.ret (.op (.add false) (.op (.add false) (.lst false [(.c (.int 0))]) c32_0) (.lst false [(.var 1)]))]⟩
def i0 : FnI := ⟨["script"], []⟩  -- law
def i1 : FnI := ⟨["script", "index"], []⟩  -- _law_generator
def i2 : FnI := ⟨["generator"], []⟩  -- _law_kind
def i3 : FnI := ⟨["generator", "many"], []⟩  -- _law_room
def i4 : FnI := ⟨["generator"], []⟩  -- _law_great
def i5 : FnI := ⟨["kind", "room"], []⟩  -- _law_bound
def i6 : FnI := ⟨["kind", "room", "many"], []⟩  -- _law_right
def i7 : FnI := ⟨["generator", "limit"], []⟩  -- _law_random
def i8 : FnI := ⟨["kind", "room", "many"], [(0, ["many", "room", "kind"], [2, 1, 0])]⟩  -- barring
def i9 : FnI := ⟨["kind", "room", "many"], [(0, ["many", "room", "kind"], [2, 1, 0])]⟩  -- first_bar
def i10 : FnI := ⟨["script", "index"], []⟩  -- _law_cell
def i11 : FnI := ⟨["generator", "many", "most"], []⟩  -- _law_tops
def i12 : FnI := ⟨["kind", "room", "many"], []⟩  -- _law_barring
def i13 : FnI := ⟨["kind", "room", "many"], []⟩  -- barring.m
def i14 : FnI := ⟨["kind", "room", "many"], []⟩  -- can_pass
def i15 : FnI := ⟨["tops", "many"], []⟩  -- _law_stretches
def i16 : FnI := ⟨["kind", "room", "many", "value"], [(0, ["value", "many", "room", "kind"], [3, 2, 1, 0])]⟩  -- is_bar
def i17 : FnI := ⟨["seed", "index"], []⟩  -- _law_hash
def i18 : FnI := ⟨["kind", "room", "many"], []⟩  -- check_all
def i19 : FnI := ⟨["kind", "room", "many"], []⟩  -- barring_in
def i20 : FnI := ⟨["kind", "room", "many"], []⟩  -- bars_in
def i21 : FnI := ⟨["kind", "room", "many"], []⟩  -- barring_in.m
def i22 : FnI := ⟨["kind", "room", "many"], []⟩  -- goes_in
def i23 : FnI := ⟨["value", "low", "high"], []⟩  -- is_between
def i24 : FnI := ⟨["kind"], []⟩  -- check_kind
def i25 : FnI := ⟨["room"], []⟩  -- check_room
def i26 : FnI := ⟨["number", "low", "high"], []⟩  -- check_number
def i27 : FnI := ⟨["kind", "room"], []⟩  -- bound_in
def i28 : FnI := ⟨["tops", "many"], []⟩  -- stretches_in
def i29 : FnI := ⟨["value"], []⟩  -- is_whole
def i30 : FnI := ⟨["value"], []⟩  -- kind_fits
def i31 : FnI := ⟨["value"], []⟩  -- room_fits
def i32 : FnI := ⟨["tops", "many"], []⟩  -- marks_in
def tab : Tb := [(i0, c0), (i1, c1), (i2, c2), (i3, c3), (i4, c4), (i5, c5), (i6, c6), (i7, c7), (i8, c8), (i9, c9), (i10, c10), (i11, c11), (i12, c12), (i13, c13), (i14, c14), (i15, c15), (i16, c16), (i17, c17), (i18, c18), (i19, c19), (i20, c20), (i21, c21), (i22, c22), (i23, c23), (i24, c24), (i25, c25), (i26, c26), (i27, c27), (i28, c28), (i29, c29), (i30, c30), (i31, c31), (i32, c32)]
abbrev I : Nat → FnI := tab.I
abbrev code : Nat → Option ZM.Code := tab.code
theorem ok0 : okSs c0.N G I (defScope (top 40)) (fun _ => true) c0.b (defBody (top 40)) = true := by decide +kernel
theorem sc0 : FnScope c0.N i0.ps (defScope (top 40)) := ⟨rfl, rfl, rfl, by decide +kernel, rfl, by decide +kernel, by decide +kernel⟩
theorem ok1 : okSs c1.N G I (defScope (top 30)) (fun _ => true) c1.b (defBody (top 30)) = true := by decide +kernel
theorem sc1 : FnScope c1.N i1.ps (defScope (top 30)) := ⟨rfl, rfl, rfl, by decide +kernel, rfl, by decide +kernel, by decide +kernel⟩
theorem ok2 : okSs c2.N G I (defScope (top 32)) (fun _ => true) c2.b (defBody (top 32)) = true := by decide +kernel
theorem sc2 : FnScope c2.N i2.ps (defScope (top 32)) := ⟨rfl, rfl, rfl, by decide +kernel, rfl, by decide +kernel, by decide +kernel⟩
theorem ok3 : okSs c3.N G I (defScope (top 34)) (fun _ => true) c3.b (defBody (top 34)) = true := by decide +kernel
theorem sc3 : FnScope c3.N i3.ps (defScope (top 34)) := ⟨rfl, rfl, rfl, by decide +kernel, rfl, by decide +kernel, by decide +kernel⟩
theorem ok4 : okSs c4.N G I (defScope (top 35)) (fun _ => true) c4.b (defBody (top 35)) = true := by decide +kernel
theorem sc4 : FnScope c4.N i4.ps (defScope (top 35)) := ⟨rfl, rfl, rfl, by decide +kernel, rfl, by decide +kernel, by decide +kernel⟩
theorem ok5 : okSs c5.N G I (defScope (top 36)) (fun _ => true) c5.b (defBody (top 36)) = true := by decide +kernel
theorem sc5 : FnScope c5.N i5.ps (defScope (top 36)) := ⟨rfl, rfl, rfl, by decide +kernel, rfl, by decide +kernel, by decide +kernel⟩
theorem ok6 : okSs c6.N G I (defScope (top 39)) (fun _ => true) c6.b (defBody (top 39)) = true := by decide +kernel
theorem sc6 : FnScope c6.N i6.ps (defScope (top 39)) := ⟨rfl, rfl, rfl, by decide +kernel, rfl, by decide +kernel, by decide +kernel⟩
theorem ok7 : okSs c7.N G I (defScope (top 31)) (fun _ => true) c7.b (defBody (top 31)) = true := by decide +kernel
theorem sc7 : FnScope c7.N i7.ps (defScope (top 31)) := ⟨rfl, rfl, rfl, by decide +kernel, rfl, by decide +kernel, by decide +kernel⟩
theorem ok8 : okSs c8.N G I (defScope (top 24)) (fun _ => true) c8.b (defBody (top 24)) = true := by decide +kernel
theorem sc8 : FnScope c8.N i8.ps (defScope (top 24)) := ⟨rfl, rfl, rfl, by decide +kernel, rfl, by decide +kernel, by decide +kernel⟩
theorem ok9 : okSs c9.N G I (defScope (top 25)) (fun _ => true) c9.b (defBody (top 25)) = true := by decide +kernel
theorem sc9 : FnScope c9.N i9.ps (defScope (top 25)) := ⟨rfl, rfl, rfl, by decide +kernel, rfl, by decide +kernel, by decide +kernel⟩
theorem ok10 : okSs c10.N G I (defScope (top 28)) (fun _ => true) c10.b (defBody (top 28)) = true := by decide +kernel
theorem sc10 : FnScope c10.N i10.ps (defScope (top 28)) := ⟨rfl, rfl, rfl, by decide +kernel, rfl, by decide +kernel, by decide +kernel⟩
theorem ok11 : okSs c11.N G I (defScope (top 33)) (fun _ => true) c11.b (defBody (top 33)) = true := by decide +kernel
theorem sc11 : FnScope c11.N i11.ps (defScope (top 33)) := ⟨rfl, rfl, rfl, by decide +kernel, rfl, by decide +kernel, by decide +kernel⟩
theorem ok12 : okSs c12.N G I (defScope (top 38)) (fun _ => true) c12.b (defBody (top 38)) = true := by decide +kernel
theorem sc12 : FnScope c12.N i12.ps (defScope (top 38)) := ⟨rfl, rfl, rfl, by decide +kernel, rfl, by decide +kernel, by decide +kernel⟩
theorem ok13 : okSs c13.N G I (defScope (top 24)) (fun _ => true) c13.b (defBody (top 24)) = true := by decide +kernel
theorem sc13 : FnScope c13.N i13.ps (defScope (top 24)) := ⟨rfl, rfl, rfl, by decide +kernel, rfl, by decide +kernel, by decide +kernel⟩
theorem ok14 : okSs c14.N G I (defScope (top 23)) (fun _ => true) c14.b (defBody (top 23)) = true := by decide +kernel
theorem sc14 : FnScope c14.N i14.ps (defScope (top 23)) := ⟨rfl, rfl, rfl, by decide +kernel, rfl, by decide +kernel, by decide +kernel⟩
theorem ok15 : okSs c15.N G I (defScope (top 37)) (fun _ => true) c15.b (defBody (top 37)) = true := by decide +kernel
theorem sc15 : FnScope c15.N i15.ps (defScope (top 37)) := ⟨rfl, rfl, rfl, by decide +kernel, rfl, by decide +kernel, by decide +kernel⟩
theorem ok16 : okSs c16.N G I (defScope (top 26)) (fun _ => true) c16.b (defBody (top 26)) = true := by decide +kernel
theorem sc16 : FnScope c16.N i16.ps (defScope (top 26)) := ⟨rfl, rfl, rfl, by decide +kernel, rfl, by decide +kernel, by decide +kernel⟩
theorem ok17 : okSs c17.N G I (defScope (top 29)) (fun _ => true) c17.b (defBody (top 29)) = true := by decide +kernel
theorem sc17 : FnScope c17.N i17.ps (defScope (top 29)) := ⟨rfl, rfl, rfl, by decide +kernel, rfl, by decide +kernel, by decide +kernel⟩
theorem ok18 : okSs c18.N G I (defScope (top 22)) (fun _ => true) c18.b (defBody (top 22)) = true := by decide +kernel
theorem sc18 : FnScope c18.N i18.ps (defScope (top 22)) := ⟨rfl, rfl, rfl, by decide +kernel, rfl, by decide +kernel, by decide +kernel⟩
theorem ok19 : okSs c19.N G I (defScope (top 19)) (fun _ => true) c19.b (defBody (top 19)) = true := by decide +kernel
theorem sc19 : FnScope c19.N i19.ps (defScope (top 19)) := ⟨rfl, rfl, rfl, by decide +kernel, rfl, by decide +kernel, by decide +kernel⟩
theorem ok20 : okSs c20.N G I (defScope (top 20)) (fun _ => true) c20.b (defBody (top 20)) = true := by decide +kernel
theorem sc20 : FnScope c20.N i20.ps (defScope (top 20)) := ⟨rfl, rfl, rfl, by decide +kernel, rfl, by decide +kernel, by decide +kernel⟩
theorem ok21 : okSs c21.N G I (defScope (top 19)) (fun _ => true) c21.b (defBody (top 19)) = true := by decide +kernel
theorem sc21 : FnScope c21.N i21.ps (defScope (top 19)) := ⟨rfl, rfl, rfl, by decide +kernel, rfl, by decide +kernel, by decide +kernel⟩
theorem ok22 : okSs c22.N G I (defScope (top 21)) (fun _ => true) c22.b (defBody (top 21)) = true := by decide +kernel
theorem sc22 : FnScope c22.N i22.ps (defScope (top 21)) := ⟨rfl, rfl, rfl, by decide +kernel, rfl, by decide +kernel, by decide +kernel⟩
theorem ok23 : okSs c23.N G I (defScope (top 7)) (fun _ => true) c23.b (defBody (top 7)) = true := by decide +kernel
theorem sc23 : FnScope c23.N i23.ps (defScope (top 7)) := ⟨rfl, rfl, rfl, by decide +kernel, rfl, by decide +kernel, by decide +kernel⟩
theorem ok24 : okSs c24.N G I (defScope (top 12)) (fun _ => true) c24.b (defBody (top 12)) = true := by decide +kernel
theorem sc24 : FnScope c24.N i24.ps (defScope (top 12)) := ⟨rfl, rfl, rfl, by decide +kernel, rfl, by decide +kernel, by decide +kernel⟩
theorem ok25 : okSs c25.N G I (defScope (top 14)) (fun _ => true) c25.b (defBody (top 14)) = true := by decide +kernel
theorem sc25 : FnScope c25.N i25.ps (defScope (top 14)) := ⟨rfl, rfl, rfl, by decide +kernel, rfl, by decide +kernel, by decide +kernel⟩
theorem ok26 : okSs c26.N G I (defScope (top 8)) (fun _ => true) c26.b (defBody (top 8)) = true := by decide +kernel
theorem sc26 : FnScope c26.N i26.ps (defScope (top 8)) := ⟨rfl, rfl, rfl, by decide +kernel, rfl, by decide +kernel, by decide +kernel⟩
theorem ok27 : okSs c27.N G I (defScope (top 16)) (fun _ => true) c27.b (defBody (top 16)) = true := by decide +kernel
theorem sc27 : FnScope c27.N i27.ps (defScope (top 16)) := ⟨rfl, rfl, rfl, by decide +kernel, rfl, by decide +kernel, by decide +kernel⟩
theorem ok28 : okSs c28.N G I (defScope (top 18)) (fun _ => true) c28.b (defBody (top 18)) = true := by decide +kernel
theorem sc28 : FnScope c28.N i28.ps (defScope (top 18)) := ⟨rfl, rfl, rfl, by decide +kernel, rfl, by decide +kernel, by decide +kernel⟩
theorem ok29 : okSs c29.N G I (defScope (top 6)) (fun _ => true) c29.b (defBody (top 6)) = true := by decide +kernel
theorem sc29 : FnScope c29.N i29.ps (defScope (top 6)) := ⟨rfl, rfl, rfl, by decide +kernel, rfl, by decide +kernel, by decide +kernel⟩
theorem ok30 : okSs c30.N G I (defScope (top 11)) (fun _ => true) c30.b (defBody (top 11)) = true := by decide +kernel
theorem sc30 : FnScope c30.N i30.ps (defScope (top 11)) := ⟨rfl, rfl, rfl, by decide +kernel, rfl, by decide +kernel, by decide +kernel⟩
theorem ok31 : okSs c31.N G I (defScope (top 13)) (fun _ => true) c31.b (defBody (top 13)) = true := by decide +kernel
theorem sc31 : FnScope c31.N i31.ps (defScope (top 13)) := ⟨rfl, rfl, rfl, by decide +kernel, rfl, by decide +kernel, by decide +kernel⟩
theorem ok32 : okSs c32.N G I (defScope (top 17)) (fun _ => true) c32.b (defBody (top 17)) = true := by decide +kernel
theorem sc32 : FnScope c32.N i32.ps (defScope (top 17)) := ⟨rfl, rfl, rfl, by decide +kernel, rfl, by decide +kernel, by decide +kernel⟩
theorem bd0 (kV dc pm cd ct : Value) (an : Option Addr) : Bd i0 (PySem.W.fnOf "law" "law" (defArgs (top 40)) (defBody (top 40)) (defScope (top 40)) .none kV dc pm an cd ct) :=
  ⟨fun _ us h => match us, h with | [_], _ => .of_eq rfl, trivial⟩
theorem bd1 (kV dc pm cd ct : Value) (an : Option Addr) : Bd i1 (PySem.W.fnOf "_law_generator" "_law_generator" (defArgs (top 30)) (defBody (top 30)) (defScope (top 30)) .none kV dc pm an cd ct) :=
  ⟨fun _ us h => match us, h with | [_, _], _ => .of_eq rfl, trivial⟩
theorem bd2 (kV dc pm cd ct : Value) (an : Option Addr) : Bd i2 (PySem.W.fnOf "_law_kind" "_law_kind" (defArgs (top 32)) (defBody (top 32)) (defScope (top 32)) .none kV dc pm an cd ct) :=
  ⟨fun _ us h => match us, h with | [_], _ => .of_eq rfl, trivial⟩
theorem bd3 (kV dc pm cd ct : Value) (an : Option Addr) : Bd i3 (PySem.W.fnOf "_law_room" "_law_room" (defArgs (top 34)) (defBody (top 34)) (defScope (top 34)) .none kV dc pm an cd ct) :=
  ⟨fun _ us h => match us, h with | [_, _], _ => .of_eq rfl, trivial⟩
theorem bd4 (kV dc pm cd ct : Value) (an : Option Addr) : Bd i4 (PySem.W.fnOf "_law_great" "_law_great" (defArgs (top 35)) (defBody (top 35)) (defScope (top 35)) .none kV dc pm an cd ct) :=
  ⟨fun _ us h => match us, h with | [_], _ => .of_eq rfl, trivial⟩
theorem bd5 (kV dc pm cd ct : Value) (an : Option Addr) : Bd i5 (PySem.W.fnOf "_law_bound" "_law_bound" (defArgs (top 36)) (defBody (top 36)) (defScope (top 36)) .none kV dc pm an cd ct) :=
  ⟨fun _ us h => match us, h with | [_, _], _ => .of_eq rfl, trivial⟩
theorem bd6 (kV dc pm cd ct : Value) (an : Option Addr) : Bd i6 (PySem.W.fnOf "_law_right" "_law_right" (defArgs (top 39)) (defBody (top 39)) (defScope (top 39)) .none kV dc pm an cd ct) :=
  ⟨fun _ us h => match us, h with | [_, _, _], _ => .of_eq rfl, trivial⟩
theorem bd7 (kV dc pm cd ct : Value) (an : Option Addr) : Bd i7 (PySem.W.fnOf "_law_random" "_law_random" (defArgs (top 31)) (defBody (top 31)) (defScope (top 31)) .none kV dc pm an cd ct) :=
  ⟨fun _ us h => match us, h with | [_, _], _ => .of_eq rfl, trivial⟩
theorem bd8 (kV dc pm cd ct : Value) (an : Option Addr) : Bd i8 (PySem.W.fnOf "barring" "barring" (defArgs (top 24)) (defBody (top 24)) (defScope (top 24)) .none kV dc pm an cd ct) :=
  ⟨fun _ us h => match us, h with | [_, _, _], _ => .of_eq rfl, ⟨⟨rfl, fun _ us ws h1 h2 => match us, ws, h1, h2 with | [], [_, _, _], _, _ => .of_eq rfl⟩, trivial⟩⟩
theorem bd9 (kV dc pm cd ct : Value) (an : Option Addr) : Bd i9 (PySem.W.fnOf "first_bar" "first_bar" (defArgs (top 25)) (defBody (top 25)) (defScope (top 25)) .none kV dc pm an cd ct) :=
  ⟨fun _ us h => match us, h with | [_, _, _], _ => .of_eq rfl, ⟨⟨rfl, fun _ us ws h1 h2 => match us, ws, h1, h2 with | [], [_, _, _], _, _ => .of_eq rfl⟩, trivial⟩⟩
theorem bd10 (kV dc pm cd ct : Value) (an : Option Addr) : Bd i10 (PySem.W.fnOf "_law_cell" "_law_cell" (defArgs (top 28)) (defBody (top 28)) (defScope (top 28)) .none kV dc pm an cd ct) :=
  ⟨fun _ us h => match us, h with | [_, _], _ => .of_eq rfl, trivial⟩
theorem bd11 (kV dc pm cd ct : Value) (an : Option Addr) : Bd i11 (PySem.W.fnOf "_law_tops" "_law_tops" (defArgs (top 33)) (defBody (top 33)) (defScope (top 33)) .none kV dc pm an cd ct) :=
  ⟨fun _ us h => match us, h with | [_, _, _], _ => .of_eq rfl, trivial⟩
theorem bd12 (kV dc pm cd ct : Value) (an : Option Addr) : Bd i12 (PySem.W.fnOf "_law_barring" "_law_barring" (defArgs (top 38)) (defBody (top 38)) (defScope (top 38)) .none kV dc pm an cd ct) :=
  ⟨fun _ us h => match us, h with | [_, _, _], _ => .of_eq rfl, trivial⟩
theorem bd13 (kV dc pm cd ct : Value) (an : Option Addr) : Bd i13 (PySem.W.fnOf "barring" "barring" (defArgs (top 24)) (defBody (top 24)) (defScope (top 24)) .none kV dc pm an cd ct) :=
  ⟨fun _ us h => match us, h with | [_, _, _], _ => .of_eq rfl, trivial⟩
theorem bd14 (kV dc pm cd ct : Value) (an : Option Addr) : Bd i14 (PySem.W.fnOf "can_pass" "can_pass" (defArgs (top 23)) (defBody (top 23)) (defScope (top 23)) .none kV dc pm an cd ct) :=
  ⟨fun _ us h => match us, h with | [_, _, _], _ => .of_eq rfl, trivial⟩
theorem bd15 (kV dc pm cd ct : Value) (an : Option Addr) : Bd i15 (PySem.W.fnOf "_law_stretches" "_law_stretches" (defArgs (top 37)) (defBody (top 37)) (defScope (top 37)) .none kV dc pm an cd ct) :=
  ⟨fun _ us h => match us, h with | [_, _], _ => .of_eq rfl, trivial⟩
theorem bd16 (kV dc pm cd ct : Value) (an : Option Addr) : Bd i16 (PySem.W.fnOf "is_bar" "is_bar" (defArgs (top 26)) (defBody (top 26)) (defScope (top 26)) .none kV dc pm an cd ct) :=
  ⟨fun _ us h => match us, h with | [_, _, _, _], _ => .of_eq rfl, ⟨⟨rfl, fun _ us ws h1 h2 => match us, ws, h1, h2 with | [], [_, _, _, _], _, _ => .of_eq rfl⟩, trivial⟩⟩
theorem bd17 (kV dc pm cd ct : Value) (an : Option Addr) : Bd i17 (PySem.W.fnOf "_law_hash" "_law_hash" (defArgs (top 29)) (defBody (top 29)) (defScope (top 29)) .none kV dc pm an cd ct) :=
  ⟨fun _ us h => match us, h with | [_, _], _ => .of_eq rfl, trivial⟩
theorem bd18 (kV dc pm cd ct : Value) (an : Option Addr) : Bd i18 (PySem.W.fnOf "check_all" "check_all" (defArgs (top 22)) (defBody (top 22)) (defScope (top 22)) .none kV dc pm an cd ct) :=
  ⟨fun _ us h => match us, h with | [_, _, _], _ => .of_eq rfl, trivial⟩
theorem bd19 (kV dc pm cd ct : Value) (an : Option Addr) : Bd i19 (PySem.W.fnOf "barring_in" "barring_in" (defArgs (top 19)) (defBody (top 19)) (defScope (top 19)) .none kV dc pm an cd ct) :=
  ⟨fun _ us h => match us, h with | [_, _, _], _ => .of_eq rfl, trivial⟩
theorem bd20 (kV dc pm cd ct : Value) (an : Option Addr) : Bd i20 (PySem.W.fnOf "bars_in" "bars_in" (defArgs (top 20)) (defBody (top 20)) (defScope (top 20)) .none kV dc pm an cd ct) :=
  ⟨fun _ us h => match us, h with | [_, _, _], _ => .of_eq rfl, trivial⟩
theorem bd21 (kV dc pm cd ct : Value) (an : Option Addr) : Bd i21 (PySem.W.fnOf "barring_in" "barring_in" (defArgs (top 19)) (defBody (top 19)) (defScope (top 19)) .none kV dc pm an cd ct) :=
  ⟨fun _ us h => match us, h with | [_, _, _], _ => .of_eq rfl, trivial⟩
theorem bd22 (kV dc pm cd ct : Value) (an : Option Addr) : Bd i22 (PySem.W.fnOf "goes_in" "goes_in" (defArgs (top 21)) (defBody (top 21)) (defScope (top 21)) .none kV dc pm an cd ct) :=
  ⟨fun _ us h => match us, h with | [_, _, _], _ => .of_eq rfl, trivial⟩
theorem bd23 (kV dc pm cd ct : Value) (an : Option Addr) : Bd i23 (PySem.W.fnOf "is_between" "is_between" (defArgs (top 7)) (defBody (top 7)) (defScope (top 7)) .none kV dc pm an cd ct) :=
  ⟨fun _ us h => match us, h with | [_, _, _], _ => .of_eq rfl, trivial⟩
theorem bd24 (kV dc pm cd ct : Value) (an : Option Addr) : Bd i24 (PySem.W.fnOf "check_kind" "check_kind" (defArgs (top 12)) (defBody (top 12)) (defScope (top 12)) .none kV dc pm an cd ct) :=
  ⟨fun _ us h => match us, h with | [_], _ => .of_eq rfl, trivial⟩
theorem bd25 (kV dc pm cd ct : Value) (an : Option Addr) : Bd i25 (PySem.W.fnOf "check_room" "check_room" (defArgs (top 14)) (defBody (top 14)) (defScope (top 14)) .none kV dc pm an cd ct) :=
  ⟨fun _ us h => match us, h with | [_], _ => .of_eq rfl, trivial⟩
theorem bd26 (kV dc pm cd ct : Value) (an : Option Addr) : Bd i26 (PySem.W.fnOf "check_number" "check_number" (defArgs (top 8)) (defBody (top 8)) (defScope (top 8)) .none kV dc pm an cd ct) :=
  ⟨fun _ us h => match us, h with | [_, _, _], _ => .of_eq rfl, trivial⟩
theorem bd27 (kV dc pm cd ct : Value) (an : Option Addr) : Bd i27 (PySem.W.fnOf "bound_in" "bound_in" (defArgs (top 16)) (defBody (top 16)) (defScope (top 16)) .none kV dc pm an cd ct) :=
  ⟨fun _ us h => match us, h with | [_, _], _ => .of_eq rfl, trivial⟩
theorem bd28 (kV dc pm cd ct : Value) (an : Option Addr) : Bd i28 (PySem.W.fnOf "stretches_in" "stretches_in" (defArgs (top 18)) (defBody (top 18)) (defScope (top 18)) .none kV dc pm an cd ct) :=
  ⟨fun _ us h => match us, h with | [_, _], _ => .of_eq rfl, trivial⟩
theorem bd29 (kV dc pm cd ct : Value) (an : Option Addr) : Bd i29 (PySem.W.fnOf "is_whole" "is_whole" (defArgs (top 6)) (defBody (top 6)) (defScope (top 6)) .none kV dc pm an cd ct) :=
  ⟨fun _ us h => match us, h with | [_], _ => .of_eq rfl, trivial⟩
theorem bd30 (kV dc pm cd ct : Value) (an : Option Addr) : Bd i30 (PySem.W.fnOf "kind_fits" "kind_fits" (defArgs (top 11)) (defBody (top 11)) (defScope (top 11)) .none kV dc pm an cd ct) :=
  ⟨fun _ us h => match us, h with | [_], _ => .of_eq rfl, trivial⟩
theorem bd31 (kV dc pm cd ct : Value) (an : Option Addr) : Bd i31 (PySem.W.fnOf "room_fits" "room_fits" (defArgs (top 13)) (defBody (top 13)) (defScope (top 13)) .none kV dc pm an cd ct) :=
  ⟨fun _ us h => match us, h with | [_], _ => .of_eq rfl, trivial⟩
theorem bd32 (kV dc pm cd ct : Value) (an : Option Addr) : Bd i32 (PySem.W.fnOf "marks_in" "marks_in" (defArgs (top 17)) (defBody (top 17)) (defScope (top 17)) .none kV dc pm an cd ct) :=
  ⟨fun _ us h => match us, h with | [_, _], _ => .of_eq rfl, trivial⟩
open PySem.W in
theorem all_mk {l : OpenLaw} {w : World} {K : Frag} {h : Heap} {mg : Str → Option Value} {fa f0 f1 f2 f3 f4 f5 f6 f7 f8 f9 f10 f11 f12 f13 f14 f15 f16 f17 f18 f19 f20 f21 f22 f23 f24 f25 f26 f27 f28 f29 f30 : Addr} (X : K.In h) (Gd : h.Ns mainGlobals mg) (hfa : mg "law" = some (.ref fa))
    {od0 an0 od1 an1 od2 an2 od3 an3 od4 an4 od5 an5 od6 an6 od7 an7 od8 an8 od9 an9 od10 an10 od11 an11 od12 an12 od13 an13 od14 an14 od15 an15 od16 an16 od17 an17 od18 an18 od19 an19 od20 an20 od21 an21 od22 an22 od23 an23 od24 an24 od25 an25 od26 an26 od27 an27 od28 an28 od29 an29 od30 an30 : Option Addr} {sl0 sl1 sl2 sl3 sl4 sl5 sl6 sl7 sl8 sl9 sl10 sl11 sl12 sl13 sl14 sl15 sl16 sl17 sl18 sl19 sl20 sl21 sl22 sl23 sl24 sl25 sl26 sl27 sl28 sl29 sl30 : Array (Option Value)} {oc0 kV0 dc0 pm0 cd0 ct0 oc1 kV1 dc1 pm1 cd1 ct1 oc2 kV2 dc2 pm2 cd2 ct2 oc3 kV3 dc3 pm3 cd3 ct3 oc4 kV4 dc4 pm4 cd4 ct4 oc5 kV5 dc5 pm5 cd5 ct5 oc6 kV6 dc6 pm6 cd6 ct6 oc7 kV7 dc7 pm7 cd7 ct7 oc8 kV8 dc8 pm8 cd8 ct8 oc9 kV9 dc9 pm9 cd9 ct9 oc10 kV10 dc10 pm10 cd10 ct10 oc11 kV11 dc11 pm11 cd11 ct11 oc12 kV12 dc12 pm12 cd12 ct12 oc13 kV13 dc13 pm13 cd13 ct13 oc14 kV14 dc14 pm14 cd14 ct14 oc15 kV15 dc15 pm15 cd15 ct15 oc16 kV16 dc16 pm16 cd16 ct16 oc17 kV17 dc17 pm17 cd17 ct17 oc18 kV18 dc18 pm18 cd18 ct18 oc19 kV19 dc19 pm19 cd19 ct19 oc20 kV20 dc20 pm20 cd20 ct20 oc21 kV21 dc21 pm21 cd21 ct21 oc22 kV22 dc22 pm22 cd22 ct22 oc23 kV23 dc23 pm23 cd23 ct23 oc24 kV24 dc24 pm24 cd24 ct24 oc25 kV25 dc25 pm25 cd25 ct25 oc26 kV26 dc26 pm26 cd26 ct26 oc27 kV27 dc27 pm27 cd27 ct27 oc28 kV28 dc28 pm28 cd28 ct28 oc29 kV29 dc29 pm29 cd29 ct29 oc30 kV30 dc30 pm30 cd30 ct30 : Value}
    {bo_KINDS : Addr} {bd_KINDS : Option Addr} {bi_KINDS : Array Value} {bn_KINDS : Nat} {bs_KINDS : Array (Option Value)}
    (a0 : nsIn K mainGlobals "law" = some (some (.ref f0))) (l0 : K.lookup f0 = some ⟨oc0, od0, .func (fnOf "law" "law" (defArgs (top 40)) (defBody (top 40)) (defScope (top 40)) .none kV0 dc0 pm0 an0 cd0 ct0), sl0⟩) (c0' : codeIn K cd0 "law" = true) (k0 : keepIn K (.ref f0) = true)
    (a1 : nsIn K mainGlobals "_law_generator" = some (some (.ref f1))) (l1 : K.lookup f1 = some ⟨oc1, od1, .func (fnOf "_law_generator" "_law_generator" (defArgs (top 30)) (defBody (top 30)) (defScope (top 30)) .none kV1 dc1 pm1 an1 cd1 ct1), sl1⟩) (c1' : codeIn K cd1 "_law_generator" = true) (k1 : keepIn K (.ref f1) = true)
    (a2 : nsIn K mainGlobals "_law_kind" = some (some (.ref f2))) (l2 : K.lookup f2 = some ⟨oc2, od2, .func (fnOf "_law_kind" "_law_kind" (defArgs (top 32)) (defBody (top 32)) (defScope (top 32)) .none kV2 dc2 pm2 an2 cd2 ct2), sl2⟩) (c2' : codeIn K cd2 "_law_kind" = true) (k2 : keepIn K (.ref f2) = true)
    (a3 : nsIn K mainGlobals "_law_room" = some (some (.ref f3))) (l3 : K.lookup f3 = some ⟨oc3, od3, .func (fnOf "_law_room" "_law_room" (defArgs (top 34)) (defBody (top 34)) (defScope (top 34)) .none kV3 dc3 pm3 an3 cd3 ct3), sl3⟩) (c3' : codeIn K cd3 "_law_room" = true) (k3 : keepIn K (.ref f3) = true)
    (a4 : nsIn K mainGlobals "_law_great" = some (some (.ref f4))) (l4 : K.lookup f4 = some ⟨oc4, od4, .func (fnOf "_law_great" "_law_great" (defArgs (top 35)) (defBody (top 35)) (defScope (top 35)) .none kV4 dc4 pm4 an4 cd4 ct4), sl4⟩) (c4' : codeIn K cd4 "_law_great" = true) (k4 : keepIn K (.ref f4) = true)
    (a5 : nsIn K mainGlobals "_law_bound" = some (some (.ref f5))) (l5 : K.lookup f5 = some ⟨oc5, od5, .func (fnOf "_law_bound" "_law_bound" (defArgs (top 36)) (defBody (top 36)) (defScope (top 36)) .none kV5 dc5 pm5 an5 cd5 ct5), sl5⟩) (c5' : codeIn K cd5 "_law_bound" = true) (k5 : keepIn K (.ref f5) = true)
    (a6 : nsIn K mainGlobals "_law_right" = some (some (.ref f6))) (l6 : K.lookup f6 = some ⟨oc6, od6, .func (fnOf "_law_right" "_law_right" (defArgs (top 39)) (defBody (top 39)) (defScope (top 39)) .none kV6 dc6 pm6 an6 cd6 ct6), sl6⟩) (c6' : codeIn K cd6 "_law_right" = true) (k6 : keepIn K (.ref f6) = true)
    (a7 : nsIn K mainGlobals "_law_random" = some (some (.ref f7))) (l7 : K.lookup f7 = some ⟨oc7, od7, .func (fnOf "_law_random" "_law_random" (defArgs (top 31)) (defBody (top 31)) (defScope (top 31)) .none kV7 dc7 pm7 an7 cd7 ct7), sl7⟩) (c7' : codeIn K cd7 "_law_random" = true) (k7 : keepIn K (.ref f7) = true)
    (a8 : nsIn K mainGlobals "barring" = some (some (.ref f8))) (l8 : K.lookup f8 = some ⟨oc8, od8, .func (fnOf "barring" "barring" (defArgs (top 24)) (defBody (top 24)) (defScope (top 24)) .none kV8 dc8 pm8 an8 cd8 ct8), sl8⟩) (c8' : codeIn K cd8 "barring" = true) (k8 : keepIn K (.ref f8) = true)
    (a9 : nsIn K mainGlobals "first_bar" = some (some (.ref f9))) (l9 : K.lookup f9 = some ⟨oc9, od9, .func (fnOf "first_bar" "first_bar" (defArgs (top 25)) (defBody (top 25)) (defScope (top 25)) .none kV9 dc9 pm9 an9 cd9 ct9), sl9⟩) (c9' : codeIn K cd9 "first_bar" = true) (k9 : keepIn K (.ref f9) = true)
    (a10 : nsIn K mainGlobals "_law_cell" = some (some (.ref f10))) (l10 : K.lookup f10 = some ⟨oc10, od10, .func (fnOf "_law_cell" "_law_cell" (defArgs (top 28)) (defBody (top 28)) (defScope (top 28)) .none kV10 dc10 pm10 an10 cd10 ct10), sl10⟩) (c10' : codeIn K cd10 "_law_cell" = true) (k10 : keepIn K (.ref f10) = true)
    (a11 : nsIn K mainGlobals "_law_tops" = some (some (.ref f11))) (l11 : K.lookup f11 = some ⟨oc11, od11, .func (fnOf "_law_tops" "_law_tops" (defArgs (top 33)) (defBody (top 33)) (defScope (top 33)) .none kV11 dc11 pm11 an11 cd11 ct11), sl11⟩) (c11' : codeIn K cd11 "_law_tops" = true) (k11 : keepIn K (.ref f11) = true)
    (a12 : nsIn K mainGlobals "_law_barring" = some (some (.ref f12))) (l12 : K.lookup f12 = some ⟨oc12, od12, .func (fnOf "_law_barring" "_law_barring" (defArgs (top 38)) (defBody (top 38)) (defScope (top 38)) .none kV12 dc12 pm12 an12 cd12 ct12), sl12⟩) (c12' : codeIn K cd12 "_law_barring" = true) (k12 : keepIn K (.ref f12) = true)
    (a13 : nsIn K mainGlobals "can_pass" = some (some (.ref f13))) (l13 : K.lookup f13 = some ⟨oc13, od13, .func (fnOf "can_pass" "can_pass" (defArgs (top 23)) (defBody (top 23)) (defScope (top 23)) .none kV13 dc13 pm13 an13 cd13 ct13), sl13⟩) (c13' : codeIn K cd13 "can_pass" = true) (k13 : keepIn K (.ref f13) = true)
    (a14 : nsIn K mainGlobals "_law_stretches" = some (some (.ref f14))) (l14 : K.lookup f14 = some ⟨oc14, od14, .func (fnOf "_law_stretches" "_law_stretches" (defArgs (top 37)) (defBody (top 37)) (defScope (top 37)) .none kV14 dc14 pm14 an14 cd14 ct14), sl14⟩) (c14' : codeIn K cd14 "_law_stretches" = true) (k14 : keepIn K (.ref f14) = true)
    (a15 : nsIn K mainGlobals "is_bar" = some (some (.ref f15))) (l15 : K.lookup f15 = some ⟨oc15, od15, .func (fnOf "is_bar" "is_bar" (defArgs (top 26)) (defBody (top 26)) (defScope (top 26)) .none kV15 dc15 pm15 an15 cd15 ct15), sl15⟩) (c15' : codeIn K cd15 "is_bar" = true) (k15 : keepIn K (.ref f15) = true)
    (a16 : nsIn K mainGlobals "_law_hash" = some (some (.ref f16))) (l16 : K.lookup f16 = some ⟨oc16, od16, .func (fnOf "_law_hash" "_law_hash" (defArgs (top 29)) (defBody (top 29)) (defScope (top 29)) .none kV16 dc16 pm16 an16 cd16 ct16), sl16⟩) (c16' : codeIn K cd16 "_law_hash" = true) (k16 : keepIn K (.ref f16) = true)
    (a17 : nsIn K mainGlobals "check_all" = some (some (.ref f17))) (l17 : K.lookup f17 = some ⟨oc17, od17, .func (fnOf "check_all" "check_all" (defArgs (top 22)) (defBody (top 22)) (defScope (top 22)) .none kV17 dc17 pm17 an17 cd17 ct17), sl17⟩) (c17' : codeIn K cd17 "check_all" = true) (k17 : keepIn K (.ref f17) = true)
    (a18 : nsIn K mainGlobals "barring_in" = some (some (.ref f18))) (l18 : K.lookup f18 = some ⟨oc18, od18, .func (fnOf "barring_in" "barring_in" (defArgs (top 19)) (defBody (top 19)) (defScope (top 19)) .none kV18 dc18 pm18 an18 cd18 ct18), sl18⟩) (c18' : codeIn K cd18 "barring_in" = true) (k18 : keepIn K (.ref f18) = true)
    (a19 : nsIn K mainGlobals "bars_in" = some (some (.ref f19))) (l19 : K.lookup f19 = some ⟨oc19, od19, .func (fnOf "bars_in" "bars_in" (defArgs (top 20)) (defBody (top 20)) (defScope (top 20)) .none kV19 dc19 pm19 an19 cd19 ct19), sl19⟩) (c19' : codeIn K cd19 "bars_in" = true) (k19 : keepIn K (.ref f19) = true)
    (a20 : nsIn K mainGlobals "goes_in" = some (some (.ref f20))) (l20 : K.lookup f20 = some ⟨oc20, od20, .func (fnOf "goes_in" "goes_in" (defArgs (top 21)) (defBody (top 21)) (defScope (top 21)) .none kV20 dc20 pm20 an20 cd20 ct20), sl20⟩) (c20' : codeIn K cd20 "goes_in" = true) (k20 : keepIn K (.ref f20) = true)
    (a21 : nsIn K mainGlobals "is_between" = some (some (.ref f21))) (l21 : K.lookup f21 = some ⟨oc21, od21, .func (fnOf "is_between" "is_between" (defArgs (top 7)) (defBody (top 7)) (defScope (top 7)) .none kV21 dc21 pm21 an21 cd21 ct21), sl21⟩) (c21' : codeIn K cd21 "is_between" = true) (k21 : keepIn K (.ref f21) = true)
    (a22 : nsIn K mainGlobals "check_kind" = some (some (.ref f22))) (l22 : K.lookup f22 = some ⟨oc22, od22, .func (fnOf "check_kind" "check_kind" (defArgs (top 12)) (defBody (top 12)) (defScope (top 12)) .none kV22 dc22 pm22 an22 cd22 ct22), sl22⟩) (c22' : codeIn K cd22 "check_kind" = true) (k22 : keepIn K (.ref f22) = true)
    (a23 : nsIn K mainGlobals "check_room" = some (some (.ref f23))) (l23 : K.lookup f23 = some ⟨oc23, od23, .func (fnOf "check_room" "check_room" (defArgs (top 14)) (defBody (top 14)) (defScope (top 14)) .none kV23 dc23 pm23 an23 cd23 ct23), sl23⟩) (c23' : codeIn K cd23 "check_room" = true) (k23 : keepIn K (.ref f23) = true)
    (a24 : nsIn K mainGlobals "check_number" = some (some (.ref f24))) (l24 : K.lookup f24 = some ⟨oc24, od24, .func (fnOf "check_number" "check_number" (defArgs (top 8)) (defBody (top 8)) (defScope (top 8)) .none kV24 dc24 pm24 an24 cd24 ct24), sl24⟩) (c24' : codeIn K cd24 "check_number" = true) (k24 : keepIn K (.ref f24) = true)
    (a25 : nsIn K mainGlobals "bound_in" = some (some (.ref f25))) (l25 : K.lookup f25 = some ⟨oc25, od25, .func (fnOf "bound_in" "bound_in" (defArgs (top 16)) (defBody (top 16)) (defScope (top 16)) .none kV25 dc25 pm25 an25 cd25 ct25), sl25⟩) (c25' : codeIn K cd25 "bound_in" = true) (k25 : keepIn K (.ref f25) = true)
    (a26 : nsIn K mainGlobals "stretches_in" = some (some (.ref f26))) (l26 : K.lookup f26 = some ⟨oc26, od26, .func (fnOf "stretches_in" "stretches_in" (defArgs (top 18)) (defBody (top 18)) (defScope (top 18)) .none kV26 dc26 pm26 an26 cd26 ct26), sl26⟩) (c26' : codeIn K cd26 "stretches_in" = true) (k26 : keepIn K (.ref f26) = true)
    (a27 : nsIn K mainGlobals "is_whole" = some (some (.ref f27))) (l27 : K.lookup f27 = some ⟨oc27, od27, .func (fnOf "is_whole" "is_whole" (defArgs (top 6)) (defBody (top 6)) (defScope (top 6)) .none kV27 dc27 pm27 an27 cd27 ct27), sl27⟩) (c27' : codeIn K cd27 "is_whole" = true) (k27 : keepIn K (.ref f27) = true)
    (a28 : nsIn K mainGlobals "kind_fits" = some (some (.ref f28))) (l28 : K.lookup f28 = some ⟨oc28, od28, .func (fnOf "kind_fits" "kind_fits" (defArgs (top 11)) (defBody (top 11)) (defScope (top 11)) .none kV28 dc28 pm28 an28 cd28 ct28), sl28⟩) (c28' : codeIn K cd28 "kind_fits" = true) (k28 : keepIn K (.ref f28) = true)
    (a29 : nsIn K mainGlobals "room_fits" = some (some (.ref f29))) (l29 : K.lookup f29 = some ⟨oc29, od29, .func (fnOf "room_fits" "room_fits" (defArgs (top 13)) (defBody (top 13)) (defScope (top 13)) .none kV29 dc29 pm29 an29 cd29 ct29), sl29⟩) (c29' : codeIn K cd29 "room_fits" = true) (k29 : keepIn K (.ref f29) = true)
    (a30 : nsIn K mainGlobals "marks_in" = some (some (.ref f30))) (l30 : K.lookup f30 = some ⟨oc30, od30, .func (fnOf "marks_in" "marks_in" (defArgs (top 17)) (defBody (top 17)) (defScope (top 17)) .none kV30 dc30 pm30 an30 cd30 ct30), sl30⟩) (c30' : codeIn K cd30 "marks_in" = true) (k30 : keepIn K (.ref f30) = true)
    (z_bool : nsIn K mainGlobals "bool" = some none)
    (z_int : nsIn K mainGlobals "int" = some none)
    (z_isinstance : nsIn K mainGlobals "isinstance" = some none)
    (z_len : nsIn K mainGlobals "len" = some none)
    (z_list : nsIn K mainGlobals "list" = some none)
    (z_max : nsIn K mainGlobals "max" = some none)
    (z_range : nsIn K mainGlobals "range" = some none)
    (z_repr : nsIn K mainGlobals "repr" = some none)
    (z_str : nsIn K mainGlobals "str" = some none)
    (z_sum : nsIn K mainGlobals "sum" = some none)
    (z_tuple : nsIn K mainGlobals "tuple" = some none)
    (ga_KINDS : nsIn K mainGlobals "KINDS" = some (some (.ref bo_KINDS))) (gl_KINDS : K.lookup bo_KINDS = some ⟨.type "tuple", bd_KINDS, .seq bi_KINDS bn_KINDS, bs_KINDS⟩) (gz_KINDS : bi_KINDS.size ≤ sizeLine) (gf_KINDS : (match con_KINDS with | .tup l => flatVs l bi_KINDS.toList | _ => false) = true)
    : LawIs l w K mg fa G I code 0 := by
  have e := hfa.symm.trans (mg_of X Gd a0)
  cases e
  have F0 := fun_mk (st := top 40) l0 c0' k0
  have F1 := fun_mk (st := top 30) l1 c1' k1
  have F2 := fun_mk (st := top 32) l2 c2' k2
  have F3 := fun_mk (st := top 34) l3 c3' k3
  have F4 := fun_mk (st := top 35) l4 c4' k4
  have F5 := fun_mk (st := top 36) l5 c5' k5
  have F6 := fun_mk (st := top 39) l6 c6' k6
  have F7 := fun_mk (st := top 31) l7 c7' k7
  have F8 := fun_mk (st := top 24) l8 c8' k8
  have F9 := fun_mk (st := top 25) l9 c9' k9
  have F10 := fun_mk (st := top 28) l10 c10' k10
  have F11 := fun_mk (st := top 33) l11 c11' k11
  have F12 := fun_mk (st := top 38) l12 c12' k12
  have F13 := fun_mk (st := top 23) l13 c13' k13
  have F14 := fun_mk (st := top 37) l14 c14' k14
  have F15 := fun_mk (st := top 26) l15 c15' k15
  have F16 := fun_mk (st := top 29) l16 c16' k16
  have F17 := fun_mk (st := top 22) l17 c17' k17
  have F18 := fun_mk (st := top 19) l18 c18' k18
  have F19 := fun_mk (st := top 20) l19 c19' k19
  have F20 := fun_mk (st := top 21) l20 c20' k20
  have F21 := fun_mk (st := top 7) l21 c21' k21
  have F22 := fun_mk (st := top 12) l22 c22' k22
  have F23 := fun_mk (st := top 14) l23 c23' k23
  have F24 := fun_mk (st := top 8) l24 c24' k24
  have F25 := fun_mk (st := top 16) l25 c25' k25
  have F26 := fun_mk (st := top 18) l26 c26' k26
  have F27 := fun_mk (st := top 6) l27 c27' k27
  have F28 := fun_mk (st := top 11) l28 c28' k28
  have F29 := fun_mk (st := top 13) l29 c29' k29
  have F30 := fun_mk (st := top 17) l30 c30' k30
  exact law_is (q := [(f1, fnOf "_law_generator" "_law_generator" (defArgs (top 30)) (defBody (top 30)) (defScope (top 30)) .none kV1 dc1 pm1 an1 cd1 ct1), (f2, fnOf "_law_kind" "_law_kind" (defArgs (top 32)) (defBody (top 32)) (defScope (top 32)) .none kV2 dc2 pm2 an2 cd2 ct2), (f3, fnOf "_law_room" "_law_room" (defArgs (top 34)) (defBody (top 34)) (defScope (top 34)) .none kV3 dc3 pm3 an3 cd3 ct3), (f4, fnOf "_law_great" "_law_great" (defArgs (top 35)) (defBody (top 35)) (defScope (top 35)) .none kV4 dc4 pm4 an4 cd4 ct4), (f5, fnOf "_law_bound" "_law_bound" (defArgs (top 36)) (defBody (top 36)) (defScope (top 36)) .none kV5 dc5 pm5 an5 cd5 ct5), (f6, fnOf "_law_right" "_law_right" (defArgs (top 39)) (defBody (top 39)) (defScope (top 39)) .none kV6 dc6 pm6 an6 cd6 ct6), (f7, fnOf "_law_random" "_law_random" (defArgs (top 31)) (defBody (top 31)) (defScope (top 31)) .none kV7 dc7 pm7 an7 cd7 ct7), (f8, fnOf "barring" "barring" (defArgs (top 24)) (defBody (top 24)) (defScope (top 24)) .none kV8 dc8 pm8 an8 cd8 ct8), (f9, fnOf "first_bar" "first_bar" (defArgs (top 25)) (defBody (top 25)) (defScope (top 25)) .none kV9 dc9 pm9 an9 cd9 ct9), (f10, fnOf "_law_cell" "_law_cell" (defArgs (top 28)) (defBody (top 28)) (defScope (top 28)) .none kV10 dc10 pm10 an10 cd10 ct10), (f11, fnOf "_law_tops" "_law_tops" (defArgs (top 33)) (defBody (top 33)) (defScope (top 33)) .none kV11 dc11 pm11 an11 cd11 ct11), (f12, fnOf "_law_barring" "_law_barring" (defArgs (top 38)) (defBody (top 38)) (defScope (top 38)) .none kV12 dc12 pm12 an12 cd12 ct12), (f8, fnOf "barring" "barring" (defArgs (top 24)) (defBody (top 24)) (defScope (top 24)) .none kV8 dc8 pm8 an8 cd8 ct8), (f13, fnOf "can_pass" "can_pass" (defArgs (top 23)) (defBody (top 23)) (defScope (top 23)) .none kV13 dc13 pm13 an13 cd13 ct13), (f14, fnOf "_law_stretches" "_law_stretches" (defArgs (top 37)) (defBody (top 37)) (defScope (top 37)) .none kV14 dc14 pm14 an14 cd14 ct14), (f15, fnOf "is_bar" "is_bar" (defArgs (top 26)) (defBody (top 26)) (defScope (top 26)) .none kV15 dc15 pm15 an15 cd15 ct15), (f16, fnOf "_law_hash" "_law_hash" (defArgs (top 29)) (defBody (top 29)) (defScope (top 29)) .none kV16 dc16 pm16 an16 cd16 ct16), (f17, fnOf "check_all" "check_all" (defArgs (top 22)) (defBody (top 22)) (defScope (top 22)) .none kV17 dc17 pm17 an17 cd17 ct17), (f18, fnOf "barring_in" "barring_in" (defArgs (top 19)) (defBody (top 19)) (defScope (top 19)) .none kV18 dc18 pm18 an18 cd18 ct18), (f19, fnOf "bars_in" "bars_in" (defArgs (top 20)) (defBody (top 20)) (defScope (top 20)) .none kV19 dc19 pm19 an19 cd19 ct19), (f18, fnOf "barring_in" "barring_in" (defArgs (top 19)) (defBody (top 19)) (defScope (top 19)) .none kV18 dc18 pm18 an18 cd18 ct18), (f20, fnOf "goes_in" "goes_in" (defArgs (top 21)) (defBody (top 21)) (defScope (top 21)) .none kV20 dc20 pm20 an20 cd20 ct20), (f21, fnOf "is_between" "is_between" (defArgs (top 7)) (defBody (top 7)) (defScope (top 7)) .none kV21 dc21 pm21 an21 cd21 ct21), (f22, fnOf "check_kind" "check_kind" (defArgs (top 12)) (defBody (top 12)) (defScope (top 12)) .none kV22 dc22 pm22 an22 cd22 ct22), (f23, fnOf "check_room" "check_room" (defArgs (top 14)) (defBody (top 14)) (defScope (top 14)) .none kV23 dc23 pm23 an23 cd23 ct23), (f24, fnOf "check_number" "check_number" (defArgs (top 8)) (defBody (top 8)) (defScope (top 8)) .none kV24 dc24 pm24 an24 cd24 ct24), (f25, fnOf "bound_in" "bound_in" (defArgs (top 16)) (defBody (top 16)) (defScope (top 16)) .none kV25 dc25 pm25 an25 cd25 ct25), (f26, fnOf "stretches_in" "stretches_in" (defArgs (top 18)) (defBody (top 18)) (defScope (top 18)) .none kV26 dc26 pm26 an26 cd26 ct26), (f27, fnOf "is_whole" "is_whole" (defArgs (top 6)) (defBody (top 6)) (defScope (top 6)) .none kV27 dc27 pm27 an27 cd27 ct27), (f28, fnOf "kind_fits" "kind_fits" (defArgs (top 11)) (defBody (top 11)) (defScope (top 11)) .none kV28 dc28 pm28 an28 cd28 ct28), (f29, fnOf "room_fits" "room_fits" (defArgs (top 13)) (defBody (top 13)) (defScope (top 13)) .none kV29 dc29 pm29 an29 cd29 ct29), (f30, fnOf "marks_in" "marks_in" (defArgs (top 17)) (defBody (top 17)) (defScope (top 17)) .none kV30 dc30 pm30 an30 cd30 ct30)])
    ⟨mg_none_of X Gd z_int, mg_none_of X Gd z_isinstance, mg_none_of X Gd z_len, mg_none_of X Gd z_max, mg_none_of X Gd z_range, mg_none_of X Gd z_repr, mg_none_of X Gd z_sum, ⟨mg_none_of X Gd z_bool, rfl⟩, ⟨mg_none_of X Gd z_int, rfl⟩, ⟨mg_none_of X Gd z_list, rfl⟩, ⟨mg_none_of X Gd z_str, rfl⟩, ⟨mg_none_of X Gd z_tuple, rfl⟩, con_tup (mg_of X Gd ga_KINDS) gl_KINDS gz_KINDS gf_KINDS, ⟨mg_of X Gd a0, k0⟩, ⟨mg_of X Gd a1, k1⟩, ⟨mg_of X Gd a2, k2⟩, ⟨mg_of X Gd a3, k3⟩, ⟨mg_of X Gd a4, k4⟩, ⟨mg_of X Gd a5, k5⟩, ⟨mg_of X Gd a6, k6⟩, ⟨mg_of X Gd a7, k7⟩, ⟨mg_of X Gd a8, k8⟩, ⟨mg_of X Gd a9, k9⟩, ⟨mg_of X Gd a10, k10⟩, ⟨mg_of X Gd a11, k11⟩, ⟨mg_of X Gd a12, k12⟩, ⟨mg_of X Gd a8, k8⟩, ⟨mg_of X Gd a13, k13⟩, ⟨mg_of X Gd a14, k14⟩, ⟨mg_of X Gd a15, k15⟩, ⟨mg_of X Gd a16, k16⟩, ⟨mg_of X Gd a17, k17⟩, ⟨mg_of X Gd a18, k18⟩, ⟨mg_of X Gd a19, k19⟩, ⟨mg_of X Gd a18, k18⟩, ⟨mg_of X Gd a20, k20⟩, ⟨mg_of X Gd a21, k21⟩, ⟨mg_of X Gd a22, k22⟩, ⟨mg_of X Gd a23, k23⟩, ⟨mg_of X Gd a24, k24⟩, ⟨mg_of X Gd a25, k25⟩, ⟨mg_of X Gd a26, k26⟩, ⟨mg_of X Gd a27, k27⟩, ⟨mg_of X Gd a28, k28⟩, ⟨mg_of X Gd a29, k29⟩, ⟨mg_of X Gd a30, k30⟩, trivial⟩
    ⟨⟨bd0 .., "law", top 40, F0, sc0, ok0⟩, ⟨bd1 .., "_law_generator", top 30, F1, sc1, ok1⟩, ⟨bd2 .., "_law_kind", top 32, F2, sc2, ok2⟩, ⟨bd3 .., "_law_room", top 34, F3, sc3, ok3⟩, ⟨bd4 .., "_law_great", top 35, F4, sc4, ok4⟩, ⟨bd5 .., "_law_bound", top 36, F5, sc5, ok5⟩, ⟨bd6 .., "_law_right", top 39, F6, sc6, ok6⟩, ⟨bd7 .., "_law_random", top 31, F7, sc7, ok7⟩, ⟨bd8 .., "barring", top 24, F8, sc8, ok8⟩, ⟨bd9 .., "first_bar", top 25, F9, sc9, ok9⟩, ⟨bd10 .., "_law_cell", top 28, F10, sc10, ok10⟩, ⟨bd11 .., "_law_tops", top 33, F11, sc11, ok11⟩, ⟨bd12 .., "_law_barring", top 38, F12, sc12, ok12⟩, ⟨bd13 .., "barring", top 24, F8, sc13, ok13⟩, ⟨bd14 .., "can_pass", top 23, F13, sc14, ok14⟩, ⟨bd15 .., "_law_stretches", top 37, F14, sc15, ok15⟩, ⟨bd16 .., "is_bar", top 26, F15, sc16, ok16⟩, ⟨bd17 .., "_law_hash", top 29, F16, sc17, ok17⟩, ⟨bd18 .., "check_all", top 22, F17, sc18, ok18⟩, ⟨bd19 .., "barring_in", top 19, F18, sc19, ok19⟩, ⟨bd20 .., "bars_in", top 20, F19, sc20, ok20⟩, ⟨bd21 .., "barring_in", top 19, F18, sc21, ok21⟩, ⟨bd22 .., "goes_in", top 21, F20, sc22, ok22⟩, ⟨bd23 .., "is_between", top 7, F21, sc23, ok23⟩, ⟨bd24 .., "check_kind", top 12, F22, sc24, ok24⟩, ⟨bd25 .., "check_room", top 14, F23, sc25, ok25⟩, ⟨bd26 .., "check_number", top 8, F24, sc26, ok26⟩, ⟨bd27 .., "bound_in", top 16, F25, sc27, ok27⟩, ⟨bd28 .., "stretches_in", top 18, F26, sc28, ok28⟩, ⟨bd29 .., "is_whole", top 6, F27, sc29, ok29⟩, ⟨bd30 .., "kind_fits", top 11, F28, sc30, ok30⟩, ⟨bd31 .., "room_fits", top 13, F29, sc31, ok31⟩, ⟨bd32 .., "marks_in", top 17, F30, sc32, ok32⟩, trivial⟩
end K15
end
section
namespace K15
open PySem L2 ZM
theorem gz8 : G.z 8 = .ty .int := rfl
theorem gz7 : G.z 7 = .ty .bool := rfl
theorem gz9 : G.z 9 = .ty .lst := rfl
theorem gz10 : G.z 10 = .ty .str := rfl
theorem gz11 : G.z 11 = .ty .tup := rfl
theorem gz12 : G.z 12 = con_KINDS := rfl
/-! ### the program -/
theorem is_whole (d : Nat) (z : Z) (M : Mem) (t : Ty) (h : tyM M z = some t) : callZ G code (d + 1) 29 [z] M = .ok (.bl (decide (t = .int))) M := by
  rw [x_call (c := c29) rfl, c29]
  cases t <;> simp [h, ss_cons, ss_nil, s_ret, s_retN, s_ife, s_ex, s_asg, s_par, s_pass, e_and, e_or, e_ite, e_c, e_bi, e_call, e_callK, e_cmp, e_op, e_ix, e_neg, e_tup, e_lst, e_dic0, e_frz, es_cons, es_nil, e_gv, bind_ok, e_not, start_eq, e_var, then_rt, then_nx, end_rt, end_nx, a_name, a_tup, as_nil, as_cons, biSem, ofO_some, tst_bl, tst_tup, notR_ok, O2.sem, C2.sem, sAdd, sSub, sOrd, subTy, newL, is_nn, is_in, is_bb, is_tn, eq_ii, eq_ss, gz7, gz8, gz9, gz10, gz11, gz12]
def optZ : Option Int → Z
  | none => .non
  | some i => .int i
def geO : Option Int → Int → Bool
  | none, _ => true
  | some a, i => decide (a ≤ i)
def leO : Option Int → Int → Bool
  | none, _ => true
  | some a, i => decide (i ≤ a)
theorem is_between (d : Nat) (i : Int) (lo hi : Option Int) (M : Mem) : callZ G code (d + 2) 23 [.int i, optZ lo, optZ hi] M = .ok (.bl (geO lo i && leO hi i)) M := by
  rw [x_call (c := c23) rfl, c23]
  have h := is_whole d (.int i) M .int rfl
  cases lo <;> cases hi <;> simp only [optZ, geO, leO]
  · simp [h, ss_cons, ss_nil, s_ret, s_retN, s_ife, s_ex, s_asg, s_par, s_pass, e_and, e_or, e_ite, e_c, e_bi, e_call, e_callK, e_cmp, e_op, e_ix, e_neg, e_tup, e_lst, e_dic0, e_frz, es_cons, es_nil, e_gv, bind_ok, e_not, start_eq, e_var, then_rt, then_nx, end_rt, end_nx, a_name, a_tup, as_nil, as_cons, biSem, ofO_some, tst_bl, tst_tup, notR_ok, O2.sem, C2.sem, sAdd, sSub, sOrd, subTy, newL, is_nn, is_in, is_bb, is_tn, eq_ii, eq_ss, gz7, gz8, gz9, gz10, gz11, gz12]
  · simp [h, ss_cons, ss_nil, s_ret, s_retN, s_ife, s_ex, s_asg, s_par, s_pass, e_and, e_or, e_ite, e_c, e_bi, e_call, e_callK, e_cmp, e_op, e_ix, e_neg, e_tup, e_lst, e_dic0, e_frz, es_cons, es_nil, e_gv, bind_ok, e_not, start_eq, e_var, then_rt, then_nx, end_rt, end_nx, a_name, a_tup, as_nil, as_cons, biSem, ofO_some, tst_bl, tst_tup, notR_ok, O2.sem, C2.sem, sAdd, sSub, sOrd, subTy, newL, is_nn, is_in, is_bb, is_tn, eq_ii, eq_ss, gz7, gz8, gz9, gz10, gz11, gz12]
  · rename_i a
    by_cases q : a ≤ i <;> simp [h, q, ss_cons, ss_nil, s_ret, s_retN, s_ife, s_ex, s_asg, s_par, s_pass, e_and, e_or, e_ite, e_c, e_bi, e_call, e_callK, e_cmp, e_op, e_ix, e_neg, e_tup, e_lst, e_dic0, e_frz, es_cons, es_nil, e_gv, bind_ok, e_not, start_eq, e_var, then_rt, then_nx, end_rt, end_nx, a_name, a_tup, as_nil, as_cons, biSem, ofO_some, tst_bl, tst_tup, notR_ok, O2.sem, C2.sem, sAdd, sSub, sOrd, subTy, newL, is_nn, is_in, is_bb, is_tn, eq_ii, eq_ss, gz7, gz8, gz9, gz10, gz11, gz12]
  · rename_i a b
    by_cases q : a ≤ i <;> by_cases q' : i ≤ b <;> simp [h, q, q', ss_cons, ss_nil, s_ret, s_retN, s_ife, s_ex, s_asg, s_par, s_pass, e_and, e_or, e_ite, e_c, e_bi, e_call, e_callK, e_cmp, e_op, e_ix, e_neg, e_tup, e_lst, e_dic0, e_frz, es_cons, es_nil, e_gv, bind_ok, e_not, start_eq, e_var, then_rt, then_nx, end_rt, end_nx, a_name, a_tup, as_nil, as_cons, biSem, ofO_some, tst_bl, tst_tup, notR_ok, O2.sem, C2.sem, sAdd, sSub, sOrd, subTy, newL, is_nn, is_in, is_bb, is_tn, eq_ii, eq_ss, gz7, gz8, gz9, gz10, gz11, gz12]
theorem not_between (d : Nat) (z lo hi : Z) (M : Mem) (t : Ty) (h : tyM M z = some t) (ht : t ≠ .int) : callZ G code (d + 2) 23 [z, lo, hi] M = .ok (.bl false) M := by
  rw [x_call (c := c23) rfl, c23]
  have h := is_whole d z M t h
  simp [h, ht, ss_cons, ss_nil, s_ret, s_retN, s_ife, s_ex, s_asg, s_par, s_pass, e_and, e_or, e_ite, e_c, e_bi, e_call, e_callK, e_cmp, e_op, e_ix, e_neg, e_tup, e_lst, e_dic0, e_frz, es_cons, es_nil, e_gv, bind_ok, e_not, start_eq, e_var, then_rt, then_nx, end_rt, end_nx, a_name, a_tup, as_nil, as_cons, biSem, ofO_some, tst_bl, tst_tup, notR_ok, O2.sem, C2.sem, sAdd, sSub, sOrd, subTy, newL, is_nn, is_in, is_bb, is_tn, eq_ii, eq_ss, gz7, gz8, gz9, gz10, gz11, gz12]
theorem check_number (d : Nat) (i : Int) (lo hi : Option Int) (M : Mem) (h : (geO lo i && leO hi i) = true) : callZ G code (d + 3) 26 [.int i, optZ lo, optZ hi] M = .ok .non M := by
  rw [x_call (c := c26) rfl, c26]
  have q := is_between d i lo hi M
  rw [h] at q
  simp [q, ss_cons, ss_nil, s_ret, s_retN, s_ife, s_ex, s_asg, s_par, s_pass, e_and, e_or, e_ite, e_c, e_bi, e_call, e_callK, e_cmp, e_op, e_ix, e_neg, e_tup, e_lst, e_dic0, e_frz, es_cons, es_nil, e_gv, bind_ok, e_not, start_eq, e_var, then_rt, then_nx, end_rt, end_nx, a_name, a_tup, as_nil, as_cons, biSem, ofO_some, tst_bl, tst_tup, notR_ok, O2.sem, C2.sem, sAdd, sSub, sOrd, subTy, newL, is_nn, is_in, is_bb, is_tn, eq_ii, eq_ss, gz7, gz8, gz9, gz10, gz11, gz12]
def Kd (k : Str) : Prop := k = "over" ∨ k = "into" ∨ k = "whole"
theorem check_kind (d : Nat) {k : Str} (h : Kd k) (M : Mem) : callZ G code (d + 2) 24 [.str k] M = .ok .non M := by
  have q : callZ G code (d + 1) 30 [.str k] M = .ok (.bl true) M := by
    rw [x_call (c := c30) rfl, c30]
    rcases h with rfl | rfl | rfl
    · simp [ss_cons, ss_nil, s_ret, s_retN, s_ife, s_ex, s_asg, s_par, s_pass, e_and, e_or, e_ite, e_c, e_bi, e_call, e_callK, e_cmp, e_op, e_ix, e_neg, e_tup, e_lst, e_dic0, e_frz, es_cons, es_nil, e_gv, bind_ok, e_not, start_eq, e_var, then_rt, then_nx, end_rt, end_nx, a_name, a_tup, as_nil, as_cons, biSem, ofO_some, tst_bl, tst_tup, notR_ok, O2.sem, C2.sem, sAdd, sSub, sOrd, subTy, newL, is_nn, is_in, is_bb, is_tn, eq_ii, eq_ss, gz7, gz8, gz9, gz10, gz11, gz12, tyM, tyZ]
      rfl
    · simp [ss_cons, ss_nil, s_ret, s_retN, s_ife, s_ex, s_asg, s_par, s_pass, e_and, e_or, e_ite, e_c, e_bi, e_call, e_callK, e_cmp, e_op, e_ix, e_neg, e_tup, e_lst, e_dic0, e_frz, es_cons, es_nil, e_gv, bind_ok, e_not, start_eq, e_var, then_rt, then_nx, end_rt, end_nx, a_name, a_tup, as_nil, as_cons, biSem, ofO_some, tst_bl, tst_tup, notR_ok, O2.sem, C2.sem, sAdd, sSub, sOrd, subTy, newL, is_nn, is_in, is_bb, is_tn, eq_ii, eq_ss, gz7, gz8, gz9, gz10, gz11, gz12, tyM, tyZ]
      rfl
    · simp [ss_cons, ss_nil, s_ret, s_retN, s_ife, s_ex, s_asg, s_par, s_pass, e_and, e_or, e_ite, e_c, e_bi, e_call, e_callK, e_cmp, e_op, e_ix, e_neg, e_tup, e_lst, e_dic0, e_frz, es_cons, es_nil, e_gv, bind_ok, e_not, start_eq, e_var, then_rt, then_nx, end_rt, end_nx, a_name, a_tup, as_nil, as_cons, biSem, ofO_some, tst_bl, tst_tup, notR_ok, O2.sem, C2.sem, sAdd, sSub, sOrd, subTy, newL, is_nn, is_in, is_bb, is_tn, eq_ii, eq_ss, gz7, gz8, gz9, gz10, gz11, gz12, tyM, tyZ]
      rfl
  rw [x_call (c := c24) rfl, c24]
  simp [q, ss_cons, ss_nil, s_ret, s_retN, s_ife, s_ex, s_asg, s_par, s_pass, e_and, e_or, e_ite, e_c, e_bi, e_call, e_callK, e_cmp, e_op, e_ix, e_neg, e_tup, e_lst, e_dic0, e_frz, es_cons, es_nil, e_gv, bind_ok, e_not, start_eq, e_var, then_rt, then_nx, end_rt, end_nx, a_name, a_tup, as_nil, as_cons, biSem, ofO_some, tst_bl, tst_tup, notR_ok, O2.sem, C2.sem, sAdd, sSub, sOrd, subTy, newL, is_nn, is_in, is_bb, is_tn, eq_ii, eq_ss, gz7, gz8, gz9, gz10, gz11, gz12]
/-- a right room -/
structure Rm (c e : Int) (tops : List Int) : Prop where
  c0 : 0 ≤ c
  cB : c < 2 ^ 40
  e0 : 0 ≤ e
  eB : e ≤ 64
  t1 : ∀ t ∈ tops, 1 ≤ t
  tB : ∀ t ∈ tops, t < 2 ^ 100
  asc : ∀ i, i + 1 < tops.length → tops.getD i 0 < tops.getD (i + 1) 0
  len : tops.length ≤ 100
def lz (l : List Int) : Z := .lst (l.map .int)
def rm (c e : Int) (tops : List Int) : Z := .tup [.int c, .int e, lz tops]
theorem line100 {n : Nat} (h : n ≤ 1000) : n ≤ sizeLine := Nat.le_trans h (by decide)
/-- what is_between tells -/
structure BtO (C : Calls) (M : Mem) : Prop where
  lo : ∀ i a : Int, C 23 [.int i, .int a, .non] M = .ok (.bl (decide (a ≤ i))) M
  lohi : ∀ i a b : Int, C 23 [.int i, .int a, .int b] M = .ok (.bl (decide (a ≤ i) && decide (i ≤ b))) M
  no : ∀ (z lo hi : Z) (t : Ty), tyM M z = some t → t ≠ .int → C 23 [z, lo, hi] M = .ok (.bl false) M
theorem btO (d : Nat) (M : Mem) : BtO (callZ G code (d + 2)) M := by
  refine ⟨fun i a => ?_, fun i a b => is_between d i (some a) (some b) M, fun z lo hi t h1 h2 => not_between d z lo hi M t h1 h2⟩
  have h := is_between d i (some a) none M
  rw [show leO none i = true from rfl, Bool.and_true] at h
  exact h
theorem comp31_0 {C : Calls} {M : Mem} {c e : Int} {tops : List Int} (R : Rm c e tops) (hb : BtO C M) : den C G c31_0 [some (rm c e tops), some (.int c), some (.int e), some (lz tops), none, none] M = .ok (.lst []) M := by
  unfold c31_0
  rw [comp_pure (zs := [lz tops]) (l := tops.map .int) (fun _ => false) id (by simp [ss_cons, ss_nil, s_ret, s_retN, s_ife, s_ex, s_asg, s_par, s_pass, e_and, e_or, e_ite, e_c, e_bi, e_call, e_callK, e_cmp, e_op, e_ix, e_neg, e_tup, e_lst, e_dic0, e_frz, es_cons, es_nil, e_gv, bind_ok, e_not, start_eq, e_var, then_rt, then_nx, end_rt, end_nx, a_name, a_tup, as_nil, as_cons, biSem, ofO_some, tst_bl, tst_tup, notR_ok, O2.sem, C2.sem, sAdd, sSub, sOrd, subTy, newL, is_nn, is_in, is_bb, is_tn, eq_ii, eq_ss, gz7, gz8, gz9, gz10, gz11, gz12]) rfl ?_ (by rw [List.length_map]; exact line100 (Nat.le_trans R.len (by decide)))]
  · simp [newL, ofO_some]
  · intro z hz
    obtain ⟨t, ht, rfl⟩ := List.mem_map.mp hz
    have h := hb.lo t 1
    rw [decide_eq_true (R.t1 t ht)] at h
    refine ⟨[some (rm c e tops), some (.int c), some (.int e), some (lz tops), some (.int t), none], rfl, ?_, fun z => by cases z⟩
    simp [t_one, h, ss_cons, ss_nil, s_ret, s_retN, s_ife, s_ex, s_asg, s_par, s_pass, e_and, e_or, e_ite, e_c, e_bi, e_call, e_callK, e_cmp, e_op, e_ix, e_neg, e_tup, e_lst, e_dic0, e_frz, es_cons, es_nil, e_gv, bind_ok, e_not, start_eq, e_var, then_rt, then_nx, end_rt, end_nx, a_name, a_tup, as_nil, as_cons, biSem, ofO_some, tst_bl, tst_tup, notR_ok, O2.sem, C2.sem, sAdd, sSub, sOrd, subTy, newL, is_nn, is_in, is_bb, is_tn, eq_ii, eq_ss, gz7, gz8, gz9, gz10, gz11, gz12]
theorem comp31_1 {C : Calls} {M : Mem} {c e : Int} {tops : List Int} (R : Rm c e tops) : den C G c31_1 [some (rm c e tops), some (.int c), some (.int e), some (lz tops), none, none] M = .ok (.lst []) M := by
  have hl := R.len
  unfold c31_1
  rw [comp_pure (zs := [.int 1, .int tops.length]) (l := rangeZ 1 ((tops.length : Int) - 1).toNat) (fun _ => false) id (by simp [ss_cons, ss_nil, s_ret, s_retN, s_ife, s_ex, s_asg, s_par, s_pass, e_and, e_or, e_ite, e_c, e_bi, e_call, e_callK, e_cmp, e_op, e_ix, e_neg, e_tup, e_lst, e_dic0, e_frz, es_cons, es_nil, e_gv, bind_ok, e_not, start_eq, e_var, then_rt, then_nx, end_rt, end_nx, a_name, a_tup, as_nil, as_cons, biSem, ofO_some, tst_bl, tst_tup, notR_ok, O2.sem, C2.sem, sAdd, sSub, sOrd, subTy, newL, is_nn, is_in, is_bb, is_tn, eq_ii, eq_ss, gz7, gz8, gz9, gz10, gz11, gz12, lz, itsL]) ?_ ?_ (by rw [rangeZ_len]; exact line100 (by omega))]
  · simp [newL, ofO_some]
  · simp only [itemsZ, itRange2]
    rw [if_pos (by simp only [Bool.and_eq_true, decide_eq_true_eq]; omega)]
  · intro z hz
    obtain ⟨i, rfl, h1, h2⟩ := mem_range hz
    refine ⟨[some (rm c e tops), some (.int c), some (.int e), some (lz tops), none, some (.int i)], rfl, ?_, fun z => by cases z⟩
    have q := R.asc (i - 1).toNat (by omega)
    have e1 : (i - 1).toNat + 1 = i.toNat := by omega
    rw [e1] at q
    have a1 := at_int (l := tops) (i := i - 1) (by omega) (by omega)
    have a2 := at_int (l := tops) (i := i) (by omega) (by omega)
    have q' : decide (tops.getD i.toNat 0 ≤ tops.getD (i - 1).toNat 0) = false := decide_eq_false (by omega)
    have v1 : sIx (lz tops) (.int (i - 1)) M = some (.int (tops.getD (i - 1).toNat 0), M) := by
      simp only [lz, sIx, itsL, a1, Option.map_some]
    have v2 : sIx (lz tops) (.int i) M = some (.int (tops.getD i.toNat 0), M) := by
      simp only [lz, sIx, itsL, a2, Option.map_some]
    have e2 : i.toNat - 1 = (i - 1).toNat := by omega
    simp [t_one, ss_cons, ss_nil, s_ret, s_retN, s_ife, s_ex, s_asg, s_par, s_pass, e_and, e_or, e_ite, e_c, e_bi, e_call, e_callK, e_cmp, e_op, e_ix, e_neg, e_tup, e_lst, e_dic0, e_frz, es_cons, es_nil, e_gv, bind_ok, e_not, start_eq, e_var, then_rt, then_nx, end_rt, end_nx, a_name, a_tup, as_nil, as_cons, biSem, ofO_some, tst_bl, tst_tup, notR_ok, O2.sem, C2.sem, sAdd, sSub, sOrd, subTy, newL, is_nn, is_in, is_bb, is_tn, eq_ii, eq_ss, gz7, gz8, gz9, gz10, gz11, gz12, v1, v2, q', -List.getD_eq_getElem?_getD]
    rw [e2]
    exact q
theorem b31 {C : Calls} {M : Mem} {c e : Int} {tops : List Int} (R : Rm c e tops) (hb : BtO C M) : endZ (runs C G c31.b (startZ 6 [rm c e tops]) M) = .ok (.bl true) M := by
  rw [c31]
  have h1 := hb.lo c 0
  have h2 := hb.lo e 0
  rw [decide_eq_true R.c0] at h1
  rw [decide_eq_true R.e0] at h2
  have q1 := comp31_0 R hb
  have q2 := comp31_1 (C := C) (M := M) R
  simp only [rm, lz] at q1 q2 ⊢
  simp [h1, h2, q1, q2, nil_ne, nil_eq, tyM, tyZ, sIx, atI, ixN, ss_cons, ss_nil, s_ret, s_retN, s_ife, s_ex, s_asg, s_par, s_pass, e_and, e_or, e_ite, e_c, e_bi, e_call, e_callK, e_cmp, e_op, e_ix, e_neg, e_tup, e_lst, e_dic0, e_frz, es_cons, es_nil, e_gv, bind_ok, e_not, start_eq, e_var, then_rt, then_nx, end_rt, end_nx, a_name, a_tup, as_nil, as_cons, biSem, ofO_some, tst_bl, tst_tup, notR_ok, O2.sem, C2.sem, sAdd, sSub, sOrd, subTy, newL, is_nn, is_in, is_bb, is_tn, eq_ii, eq_ss, gz7, gz8, gz9, gz10, gz11, gz12]
theorem room_fits (d : Nat) (M : Mem) {c e : Int} {tops : List Int} (R : Rm c e tops) : callZ G code (d + 3) 31 [rm c e tops] M = .ok (.bl true) M := by
  rw [x_call (c := c31) rfl]
  exact b31 R (btO d M)
end K15
end
section
namespace K15
open PySem L2 ZM
variable {C : Calls} {M : Mem} {c e many : Int} {tops : List Int} {k : Str} {d : Nat}
/-! ### the bound -/
def bnd (k : Str) (c e : Int) : Int := if k = "into" then (if 0 < e then (c + 1) * 2 ^ (e - 1).toNat else 0) else (c + 1) * 2 ^ e.toNat
theorem kq {n : Bool} (hk : Kd k) : sEq n (.str k) (.str "into") M = some (.bl (xor n (decide (k = "into"))), M) := by
  rcases hk with rfl | rfl | rfl
  · rw [eq_ss (by decide +kernel) (by decide +kernel)]
    congr 3
  · rw [eq_ss (by decide +kernel) (by decide +kernel)]
    congr 3
  · rw [eq_ss (by decide +kernel) (by decide +kernel)]
    congr 3
theorem smal40 {i : Int} (h0 : 0 ≤ i) (h1 : i < 2 ^ 1000) : smal i = true := by
  refine decide_eq_true ?_
  have e : (2 : Int) ^ 1000 ≤ ((lim : Nat) : Int) := by decide +kernel
  omega
theorem shl_ok {i j : Int} (h0 : 0 ≤ i) (h1 : i < 2 ^ 1000) (h2 : 0 ≤ j) (h3 : j ≤ 4000) : sShl (.int i) (.int j) M = some (.int (i * 2 ^ j.toNat), M) := by
  simp [sShl, h2, h3, smal40 h0 h1]
theorem small {i : Int} (h : i < 2 ^ 40 + 10) : i < 2 ^ 1000 := Int.lt_trans h (by decide +kernel)
theorem b27 (hk : Kd k) (R : Rm c e tops) : endZ (runs C G c27.b (startZ 5 [.str k, rm c e tops]) M) = .ok (.int (bnd k c e)) M := by
  have r1 := R.c0
  have r2 := R.cB
  have r3 := R.e0
  have r4 := R.eB
  have K1 := kq (M := M) (n := false) hk
  rw [c27]
  unfold bnd
  by_cases h : k = "into"
  · subst h
    rw [if_pos rfl]
    simp only [decide_true, Bool.false_xor] at K1
    by_cases he : 0 < e
    · have q := shl_ok (M := M) (i := c + 1) (j := e - 1) (by omega) (small (by omega)) (by omega) (by omega)
      simp [rm, K1, he, q, ss_cons, ss_nil, s_ret, s_retN, s_ife, s_ex, s_asg, s_par, s_pass, e_and, e_or, e_ite, e_c, e_bi, e_call, e_callK, e_cmp, e_op, e_ix, e_neg, e_tup, e_lst, e_dic0, e_frz, es_cons, es_nil, e_gv, bind_ok, e_not, start_eq, e_var, then_rt, then_nx, end_rt, end_nx, a_name, a_tup, as_nil, as_cons, biSem, ofO_some, tst_bl, tst_tup, notR_ok, O2.sem, C2.sem, sAdd, sSub, sOrd, subTy, newL, is_nn, is_in, is_bb, is_tn, eq_ii, eq_ss, gz7, gz8, gz9, gz10, gz11, gz12]
    · simp [rm, K1, he, ss_cons, ss_nil, s_ret, s_retN, s_ife, s_ex, s_asg, s_par, s_pass, e_and, e_or, e_ite, e_c, e_bi, e_call, e_callK, e_cmp, e_op, e_ix, e_neg, e_tup, e_lst, e_dic0, e_frz, es_cons, es_nil, e_gv, bind_ok, e_not, start_eq, e_var, then_rt, then_nx, end_rt, end_nx, a_name, a_tup, as_nil, as_cons, biSem, ofO_some, tst_bl, tst_tup, notR_ok, O2.sem, C2.sem, sAdd, sSub, sOrd, subTy, newL, is_nn, is_in, is_bb, is_tn, eq_ii, eq_ss, gz7, gz8, gz9, gz10, gz11, gz12]
  · rw [if_neg h]
    simp only [decide_eq_false h, Bool.false_xor] at K1
    have q := shl_ok (M := M) (i := c + 1) (j := e) (by omega) (small (by omega)) r3 (by omega)
    simp [rm, K1, q, ss_cons, ss_nil, s_ret, s_retN, s_ife, s_ex, s_asg, s_par, s_pass, e_and, e_or, e_ite, e_c, e_bi, e_call, e_callK, e_cmp, e_op, e_ix, e_neg, e_tup, e_lst, e_dic0, e_frz, es_cons, es_nil, e_gv, bind_ok, e_not, start_eq, e_var, then_rt, then_nx, end_rt, end_nx, a_name, a_tup, as_nil, as_cons, biSem, ofO_some, tst_bl, tst_tup, notR_ok, O2.sem, C2.sem, sAdd, sSub, sOrd, subTy, newL, is_nn, is_in, is_bb, is_tn, eq_ii, eq_ss, gz7, gz8, gz9, gz10, gz11, gz12]
theorem bound_in (hk : Kd k) (R : Rm c e tops) : callZ G code (d + 1) 27 [.str k, rm c e tops] M = .ok (.int (bnd k c e)) M := by
  rw [x_call (c := c27) rfl]
  exact b27 hk R
/-! ### stretches -/
def marks (tops : List Int) (many : Int) : List Int := 0 :: (tops.filter (fun t => decide (t < many)) ++ [many])
theorem marks_len : (marks tops many).length ≤ tops.length + 2 := by
  unfold marks
  rw [List.length_cons, List.length_append, List.length_singleton]
  have := List.length_filter_le (fun t => decide (t < many)) tops
  omega
theorem filt_int {l : List Int} {p : Z → Bool} : (l.map Z.int).filter p = (l.filter fun i => p (.int i)).map .int := by
  rw [List.filter_map]
  rfl
def ltZ (many : Int) : Z → Bool
  | .int i => decide (i < many)
  | _ => false
theorem line1000 {n : Nat} (h : n ≤ 1000) : n ≤ sizeLine := Nat.le_trans h (by decide)
theorem comp32 (hl : tops.length ≤ 100) : den C G c32_0 [some (lz tops), some (.int many), none] M = .ok (lz (tops.filter fun t => decide (t < many))) M := by
  unfold c32_0
  rw [comp_pure (zs := [lz tops]) (l := tops.map .int) (ltZ many) id (by simp [ss_cons, ss_nil, s_ret, s_retN, s_ife, s_ex, s_asg, s_par, s_pass, e_and, e_or, e_ite, e_c, e_bi, e_call, e_callK, e_cmp, e_op, e_ix, e_neg, e_tup, e_lst, e_dic0, e_frz, es_cons, es_nil, e_gv, bind_ok, e_not, start_eq, e_var, then_rt, then_nx, end_rt, end_nx, a_name, a_tup, as_nil, as_cons, biSem, ofO_some, tst_bl, tst_tup, notR_ok, O2.sem, C2.sem, sAdd, sSub, sOrd, subTy, newL, is_nn, is_in, is_bb, is_tn, eq_ii, eq_ss, gz7, gz8, gz9, gz10, gz11, gz12]) rfl ?_ (by rw [List.length_map]; exact line1000 (by omega))]
  · rw [filt_int, List.map_id]
    rfl
  · intro z hz
    obtain ⟨t, ht, rfl⟩ := List.mem_map.mp hz
    refine ⟨[some (lz tops), some (.int many), some (.int t)], rfl, ?_, fun _ => ?_⟩
    · simp [t_one, ltZ, ss_cons, ss_nil, s_ret, s_retN, s_ife, s_ex, s_asg, s_par, s_pass, e_and, e_or, e_ite, e_c, e_bi, e_call, e_callK, e_cmp, e_op, e_ix, e_neg, e_tup, e_lst, e_dic0, e_frz, es_cons, es_nil, e_gv, bind_ok, e_not, start_eq, e_var, then_rt, then_nx, end_rt, end_nx, a_name, a_tup, as_nil, as_cons, biSem, ofO_some, tst_bl, tst_tup, notR_ok, O2.sem, C2.sem, sAdd, sSub, sOrd, subTy, newL, is_nn, is_in, is_bb, is_tn, eq_ii, eq_ss, gz7, gz8, gz9, gz10, gz11, gz12]
    · simp [ss_cons, ss_nil, s_ret, s_retN, s_ife, s_ex, s_asg, s_par, s_pass, e_and, e_or, e_ite, e_c, e_bi, e_call, e_callK, e_cmp, e_op, e_ix, e_neg, e_tup, e_lst, e_dic0, e_frz, es_cons, es_nil, e_gv, bind_ok, e_not, start_eq, e_var, then_rt, then_nx, end_rt, end_nx, a_name, a_tup, as_nil, as_cons, biSem, ofO_some, tst_bl, tst_tup, notR_ok, O2.sem, C2.sem, sAdd, sSub, sOrd, subTy, newL, is_nn, is_in, is_bb, is_tn, eq_ii, eq_ss, gz7, gz8, gz9, gz10, gz11, gz12]
theorem b32 (hl : tops.length ≤ 100) : endZ (runs C G c32.b (startZ 3 [lz tops, .int many]) M) = .ok (lz (marks tops many)) M := by
  rw [c32]
  have q := comp32 (C := C) (M := M) (many := many) hl
  have h := marks_len (tops := tops) (many := many)
  unfold marks at h
  have e1 : 1 + (tops.filter fun t => decide (t < many)).length ≤ sizeLine := line1000 (by rw [List.length_cons, List.length_append, List.length_singleton] at h; omega)
  have e2 : 1 + (tops.filter fun t => decide (t < many)).length + 1 ≤ sizeLine := line1000 (by rw [List.length_cons, List.length_append, List.length_singleton] at h; omega)
  have e3 : 1 ≤ sizeLine := by decide
  simp only [start_eq]
  have a1 : ownL M (.lst [.int 0]) = some [.int 0] := id rfl
  have a2 : ownL M (lz (tops.filter fun t => decide (t < many))) = some ((tops.filter fun t => decide (t < many)).map .int) := id rfl
  have p1 : sAdd false (.lst [.int 0]) (lz (tops.filter fun t => decide (t < many))) M = some (lz (0 :: tops.filter fun t => decide (t < many)), M) := by
    unfold sAdd lz
    simp only [ownL, newL, List.length_cons, List.length_nil, List.length_map]
    rw [if_pos (by rw [Nat.zero_add]; exact e1)]
    rfl
  have p2 : sAdd false (lz (0 :: tops.filter fun t => decide (t < many))) (.lst [.int many]) M = some (lz (marks tops many), M) := by
    unfold sAdd lz
    simp only [ownL, newL, List.length_cons, List.length_nil, List.length_map]
    rw [if_pos (by rw [Nat.zero_add, Nat.add_comm _ 1]; exact e2)]
    unfold marks
    simp
  simp [q, p1, p2, e3, ss_cons, ss_nil, s_ret, bind_ok, e_op, e_lst, es_cons, es_nil, e_c, e_var, O2.sem, ofO_some, newL, then_rt, end_rt]
theorem marks_in (hl : tops.length ≤ 100) : callZ G code (d + 1) 32 [lz tops, .int many] M = .ok (lz (marks tops many)) M := by
  rw [x_call (c := c32) rfl]
  exact b32 hl
def lp (l : List (Int × Int)) : Z := .lst (l.map pr)
def pairAt (l : List Int) : Z → Z
  | .int i => pr (l.getD (i - 1).toNat 0, l.getD i.toNat 0)
  | _ => .non
theorem ix_lz {l : List Int} {i : Int} (h0 : 0 ≤ i) (h1 : i < l.length) : sIx (lz l) (.int i) M = some (.int (l.getD i.toNat 0), M) := by
  simp only [lz, sIx, itsL, at_int h0 h1, Option.map_some]
theorem comp28 {l : List Int} {x y : Option Z} (hl : l.length ≤ 200) : den C G c28_0 [x, y, some (lz l), none] M = .ok (lp (nb l)) M := by
  unfold c28_0
  rw [comp_pure (zs := [.int 1, .int l.length]) (l := rangeZ 1 (l.length - 1)) (fun _ => true) (pairAt l) (by simp [ss_cons, ss_nil, s_ret, s_retN, s_ife, s_ex, s_asg, s_par, s_pass, e_and, e_or, e_ite, e_c, e_bi, e_call, e_callK, e_cmp, e_op, e_ix, e_neg, e_tup, e_lst, e_dic0, e_frz, es_cons, es_nil, e_gv, bind_ok, e_not, start_eq, e_var, then_rt, then_nx, end_rt, end_nx, a_name, a_tup, as_nil, as_cons, biSem, ofO_some, tst_bl, tst_tup, notR_ok, O2.sem, C2.sem, sAdd, sSub, sOrd, subTy, newL, is_nn, is_in, is_bb, is_tn, eq_ii, eq_ss, gz7, gz8, gz9, gz10, gz11, gz12, lz, itsL]) ?_ ?_ (by rw [rangeZ_len]; exact line1000 (by omega))]
  · rw [List.filter_eq_self.mpr (fun _ _ => rfl), range_nb (l := l) (lo := 1) (f := pairAt l) fun i hi => ?_]
    · rfl
    · show pr (l.getD (1 + (i : Int) - 1).toNat 0, l.getD (1 + (i : Int)).toNat 0) = _
      have e1 : (1 + (i : Int) - 1).toNat = i := by omega
      have e2 : (1 + (i : Int)).toNat = i + 1 := by omega
      rw [e1, e2]
  · simp only [itemsZ, itRange2]
    rw [if_pos (by simp only [Bool.and_eq_true, decide_eq_true_eq]; omega)]
    congr 1
    congr 1
    omega
  · intro z hz
    obtain ⟨i, rfl, h1, h2⟩ := mem_range hz
    refine ⟨[x, y, some (lz l), some (.int i)], rfl, t_nil, fun _ => ?_⟩
    have a1 := ix_lz (M := M) (l := l) (i := i - 1) (by omega) (by omega)
    have a2 := ix_lz (M := M) (l := l) (i := i) (by omega) (by omega)
    have e3 : 2 ≤ sizeLine := by decide
    simp [ss_cons, ss_nil, s_ret, s_retN, s_ife, s_ex, s_asg, s_par, s_pass, e_and, e_or, e_ite, e_c, e_bi, e_call, e_callK, e_cmp, e_op, e_ix, e_neg, e_tup, e_lst, e_dic0, e_frz, es_cons, es_nil, e_gv, bind_ok, e_not, start_eq, e_var, then_rt, then_nx, end_rt, end_nx, a_name, a_tup, as_nil, as_cons, biSem, ofO_some, tst_bl, tst_tup, notR_ok, O2.sem, C2.sem, sAdd, sSub, sOrd, subTy, newL, is_nn, is_in, is_bb, is_tn, eq_ii, eq_ss, gz7, gz8, gz9, gz10, gz11, gz12, a1, a2, pairAt, pr, e3, -List.getD_eq_getElem?_getD]
theorem stretches_in (hl : tops.length ≤ 100) : callZ G code (d + 2) 28 [lz tops, .int many] M = .ok (lp (nb (marks tops many))) M := by
  rw [x_call (c := c28) rfl]
  generalize hC : callZ G code (d + 1) = C
  have h : C 32 [lz tops, .int many] M = .ok (lz (marks tops many)) M := by rw [← hC]; exact marks_in hl
  have hm := marks_len (tops := tops) (many := many)
  have q := comp28 (C := C) (M := M) (l := marks tops many) (x := some (lz tops)) (y := some (.int many)) (by omega)
  rw [c28]
  simp [h, q, ss_cons, ss_nil, s_ret, s_retN, s_ife, s_ex, s_asg, s_par, s_pass, e_and, e_or, e_ite, e_c, e_bi, e_call, e_callK, e_cmp, e_op, e_ix, e_neg, e_tup, e_lst, e_dic0, e_frz, es_cons, es_nil, e_gv, bind_ok, e_not, start_eq, e_var, then_rt, then_nx, end_rt, end_nx, a_name, a_tup, as_nil, as_cons, biSem, ofO_some, tst_bl, tst_tup, notR_ok, O2.sem, C2.sem, sAdd, sSub, sOrd, subTy, newL, is_nn, is_in, is_bb, is_tn, eq_ii, eq_ss, gz7, gz8, gz9, gz10, gz11, gz12]
/-! ### what bars -/
def due (k : Str) (c e : Int) (tops : List Int) (many : Int) : List (Int × Int) := (nb (marks tops many)).filter fun p => decide (bnd k c e < p.2 - p.1)
def dueZ (b : Int) : Z → Bool
  | .tup [.int x, .int y] => decide (b < y - x)
  | _ => false
theorem filt_pr {l : List (Int × Int)} {b : Int} : (l.map pr).filter (dueZ b) = (l.filter fun p => decide (b < p.2 - p.1)).map pr := by
  rw [List.filter_map]
  rfl
theorem ix2 : sIx (rm c e tops) (.int 2) M = some (lz tops, M) := id rfl
theorem comp19 {l : List (Int × Int)} {b : Int} {x : Option Z} (hC : C 28 [lz tops, .int many] M = .ok (lp l) M) (hl : l.length ≤ 200) : den C G c19_0 [x, some (rm c e tops), some (.int many), some (.int b), none, none] M = .ok (lp (l.filter fun p => decide (b < p.2 - p.1))) M := by
  unfold c19_0
  rw [comp_pure (zs := [lp l]) (l := l.map pr) (dueZ b) id (by simp [ss_cons, ss_nil, s_ret, s_retN, s_ife, s_ex, s_asg, s_par, s_pass, e_and, e_or, e_ite, e_c, e_bi, e_call, e_callK, e_cmp, e_op, e_ix, e_neg, e_tup, e_lst, e_dic0, e_frz, es_cons, es_nil, e_gv, bind_ok, e_not, start_eq, e_var, then_rt, then_nx, end_rt, end_nx, a_name, a_tup, as_nil, as_cons, biSem, ofO_some, tst_bl, tst_tup, notR_ok, O2.sem, C2.sem, sAdd, sSub, sOrd, subTy, newL, is_nn, is_in, is_bb, is_tn, eq_ii, eq_ss, gz7, gz8, gz9, gz10, gz11, gz12, ix2, hC]) rfl ?_ (by rw [List.length_map]; exact line1000 (by omega))]
  · rw [filt_pr, List.map_id]
    rfl
  · intro z hz
    obtain ⟨p, hp, rfl⟩ := List.mem_map.mp hz
    have e3 : 2 ≤ sizeLine := by decide
    refine ⟨[x, some (rm c e tops), some (.int many), some (.int b), some (.int p.1), some (.int p.2)], rfl, ?_, fun _ => ?_⟩
    · simp [t_one, dueZ, pr, ss_cons, ss_nil, s_ret, s_retN, s_ife, s_ex, s_asg, s_par, s_pass, e_and, e_or, e_ite, e_c, e_bi, e_call, e_callK, e_cmp, e_op, e_ix, e_neg, e_tup, e_lst, e_dic0, e_frz, es_cons, es_nil, e_gv, bind_ok, e_not, start_eq, e_var, then_rt, then_nx, end_rt, end_nx, a_name, a_tup, as_nil, as_cons, biSem, ofO_some, tst_bl, tst_tup, notR_ok, O2.sem, C2.sem, sAdd, sSub, sOrd, subTy, newL, is_nn, is_in, is_bb, is_tn, eq_ii, eq_ss, gz7, gz8, gz9, gz10, gz11, gz12]
    · simp [ss_cons, ss_nil, s_ret, s_retN, s_ife, s_ex, s_asg, s_par, s_pass, e_and, e_or, e_ite, e_c, e_bi, e_call, e_callK, e_cmp, e_op, e_ix, e_neg, e_tup, e_lst, e_dic0, e_frz, es_cons, es_nil, e_gv, bind_ok, e_not, start_eq, e_var, then_rt, then_nx, end_rt, end_nx, a_name, a_tup, as_nil, as_cons, biSem, ofO_some, tst_bl, tst_tup, notR_ok, O2.sem, C2.sem, sAdd, sSub, sOrd, subTy, newL, is_nn, is_in, is_bb, is_tn, eq_ii, eq_ss, gz7, gz8, gz9, gz10, gz11, gz12, pr, e3]
theorem comp21 {l : List (Int × Int)} {b : Int} {x : Option Z} (hC : C 28 [lz tops, .int many] M = .ok (lp l) M) (hl : l.length ≤ 200) : den C G c21_0 [x, some (rm c e tops), some (.int many), some (.int b), none, none] M = .ok (.ref M.length) (M ++ [.lst ((l.filter fun p => decide (b < p.2 - p.1)).map pr)]) := by
  unfold c21_0
  rw [comp_pure (zs := [lp l]) (l := l.map pr) (dueZ b) id (by simp [ss_cons, ss_nil, s_ret, s_retN, s_ife, s_ex, s_asg, s_par, s_pass, e_and, e_or, e_ite, e_c, e_bi, e_call, e_callK, e_cmp, e_op, e_ix, e_neg, e_tup, e_lst, e_dic0, e_frz, es_cons, es_nil, e_gv, bind_ok, e_not, start_eq, e_var, then_rt, then_nx, end_rt, end_nx, a_name, a_tup, as_nil, as_cons, biSem, ofO_some, tst_bl, tst_tup, notR_ok, O2.sem, C2.sem, sAdd, sSub, sOrd, subTy, newL, is_nn, is_in, is_bb, is_tn, eq_ii, eq_ss, gz7, gz8, gz9, gz10, gz11, gz12, ix2, hC]) rfl ?_ (by rw [List.length_map]; exact line1000 (by omega))]
  · rw [filt_pr, List.map_id]
    rfl
  · intro z hz
    obtain ⟨p, hp, rfl⟩ := List.mem_map.mp hz
    have e3 : 2 ≤ sizeLine := by decide
    refine ⟨[x, some (rm c e tops), some (.int many), some (.int b), some (.int p.1), some (.int p.2)], rfl, ?_, fun _ => ?_⟩
    · simp [t_one, dueZ, pr, ss_cons, ss_nil, s_ret, s_retN, s_ife, s_ex, s_asg, s_par, s_pass, e_and, e_or, e_ite, e_c, e_bi, e_call, e_callK, e_cmp, e_op, e_ix, e_neg, e_tup, e_lst, e_dic0, e_frz, es_cons, es_nil, e_gv, bind_ok, e_not, start_eq, e_var, then_rt, then_nx, end_rt, end_nx, a_name, a_tup, as_nil, as_cons, biSem, ofO_some, tst_bl, tst_tup, notR_ok, O2.sem, C2.sem, sAdd, sSub, sOrd, subTy, newL, is_nn, is_in, is_bb, is_tn, eq_ii, eq_ss, gz7, gz8, gz9, gz10, gz11, gz12]
    · simp [ss_cons, ss_nil, s_ret, s_retN, s_ife, s_ex, s_asg, s_par, s_pass, e_and, e_or, e_ite, e_c, e_bi, e_call, e_callK, e_cmp, e_op, e_ix, e_neg, e_tup, e_lst, e_dic0, e_frz, es_cons, es_nil, e_gv, bind_ok, e_not, start_eq, e_var, then_rt, then_nx, end_rt, end_nx, a_name, a_tup, as_nil, as_cons, biSem, ofO_some, tst_bl, tst_tup, notR_ok, O2.sem, C2.sem, sAdd, sSub, sOrd, subTy, newL, is_nn, is_in, is_bb, is_tn, eq_ii, eq_ss, gz7, gz8, gz9, gz10, gz11, gz12, pr, e3]
theorem nbm_len (hl : tops.length ≤ 100) : (nb (marks tops many)).length ≤ 200 := by
  rw [nb_len]
  have := marks_len (tops := tops) (many := many)
  omega
theorem barring_in (hk : Kd k) (R : Rm c e tops) : callZ G code (d + 3) 19 [.str k, rm c e tops, .int many] M = .ok (lp (due k c e tops many)) M := by
  rw [x_call (c := c19) rfl]
  generalize hC : callZ G code (d + 2) = C
  have h1 : C 27 [.str k, rm c e tops] M = .ok (.int (bnd k c e)) M := by rw [← hC]; exact bound_in hk R
  have h2 : C 28 [lz tops, .int many] M = .ok (lp (nb (marks tops many))) M := by rw [← hC]; exact stretches_in R.len
  have q := comp19 (c := c) (e := e) (x := some (.str k)) (b := bnd k c e) h2 (nbm_len R.len)
  rw [c19]
  simp [h1, q, ss_cons, ss_nil, s_ret, s_retN, s_ife, s_ex, s_asg, s_par, s_pass, e_and, e_or, e_ite, e_c, e_bi, e_call, e_callK, e_cmp, e_op, e_ix, e_neg, e_tup, e_lst, e_dic0, e_frz, es_cons, es_nil, e_gv, bind_ok, e_not, start_eq, e_var, then_rt, then_nx, end_rt, end_nx, a_name, a_tup, as_nil, as_cons, biSem, ofO_some, tst_bl, tst_tup, notR_ok, O2.sem, C2.sem, sAdd, sSub, sOrd, subTy, newL, is_nn, is_in, is_bb, is_tn, eq_ii, eq_ss, gz7, gz8, gz9, gz10, gz11, gz12]
  rfl
theorem barring_m (hk : Kd k) (R : Rm c e tops) : callZ G code (d + 3) 21 [.str k, rm c e tops, .int many] M = .ok (.ref M.length) (M ++ [.lst ((due k c e tops many).map pr)]) := by
  rw [x_call (c := c21) rfl]
  generalize hC : callZ G code (d + 2) = C
  have h1 : C 27 [.str k, rm c e tops] M = .ok (.int (bnd k c e)) M := by rw [← hC]; exact bound_in hk R
  have h2 : C 28 [lz tops, .int many] M = .ok (lp (nb (marks tops many))) M := by rw [← hC]; exact stretches_in R.len
  have q := comp21 (c := c) (e := e) (x := some (.str k)) (b := bnd k c e) h2 (nbm_len R.len)
  rw [c21]
  simp [h1, q, ss_cons, ss_nil, s_ret, s_retN, s_ife, s_ex, s_asg, s_par, s_pass, e_and, e_or, e_ite, e_c, e_bi, e_call, e_callK, e_cmp, e_op, e_ix, e_neg, e_tup, e_lst, e_dic0, e_frz, es_cons, es_nil, e_gv, bind_ok, e_not, start_eq, e_var, then_rt, then_nx, end_rt, end_nx, a_name, a_tup, as_nil, as_cons, biSem, ofO_some, tst_bl, tst_tup, notR_ok, O2.sem, C2.sem, sAdd, sSub, sOrd, subTy, newL, is_nn, is_in, is_bb, is_tn, eq_ii, eq_ss, gz7, gz8, gz9, gz10, gz11, gz12]
  rfl
theorem check_room (R : Rm c e tops) : callZ G code (d + 4) 25 [rm c e tops] M = .ok .non M := by
  rw [x_call (c := c25) rfl]
  generalize hC : callZ G code (d + 3) = C
  have h : C 31 [rm c e tops] M = .ok (.bl true) M := by rw [← hC]; exact room_fits d M R
  rw [c25]
  simp [h, ss_cons, ss_nil, s_ret, s_retN, s_ife, s_ex, s_asg, s_par, s_pass, e_and, e_or, e_ite, e_c, e_bi, e_call, e_callK, e_cmp, e_op, e_ix, e_neg, e_tup, e_lst, e_dic0, e_frz, es_cons, es_nil, e_gv, bind_ok, e_not, start_eq, e_var, then_rt, then_nx, end_rt, end_nx, a_name, a_tup, as_nil, as_cons, biSem, ofO_some, tst_bl, tst_tup, notR_ok, O2.sem, C2.sem, sAdd, sSub, sOrd, subTy, newL, is_nn, is_in, is_bb, is_tn, eq_ii, eq_ss, gz7, gz8, gz9, gz10, gz11, gz12]
theorem check_all (hk : Kd k) (R : Rm c e tops) (hm : 1 ≤ many) : callZ G code (d + 5) 18 [.str k, rm c e tops, .int many] M = .ok .non M := by
  rw [x_call (c := c18) rfl]
  generalize hC : callZ G code (d + 4) = C
  have h1 : C 24 [.str k] M = .ok .non M := by rw [← hC]; exact check_kind (d + 2) hk M
  have h2 : C 25 [rm c e tops] M = .ok .non M := by rw [← hC]; exact check_room R
  have h3 : C 26 [.int many, .int 1, .non] M = .ok .non M := by rw [← hC]; exact check_number (d + 1) many (some 1) none M (by simp [geO, leO, hm])
  rw [c18]
  simp [h1, h2, h3, ss_cons, ss_nil, s_ret, s_retN, s_ife, s_ex, s_asg, s_par, s_pass, e_and, e_or, e_ite, e_c, e_bi, e_call, e_callK, e_cmp, e_op, e_ix, e_neg, e_tup, e_lst, e_dic0, e_frz, es_cons, es_nil, e_gv, bind_ok, e_not, start_eq, e_var, then_rt, then_nx, end_rt, end_nx, a_name, a_tup, as_nil, as_cons, biSem, ofO_some, tst_bl, tst_tup, notR_ok, O2.sem, C2.sem, sAdd, sSub, sOrd, subTy, newL, is_nn, is_in, is_bb, is_tn, eq_ii, eq_ss, gz7, gz8, gz9, gz10, gz11, gz12]
/-- what stands about one call -/
structure Cl (k : Str) (c e : Int) (tops : List Int) (many : Int) : Prop where
  hk : Kd k
  R : Rm c e tops
  hm : 1 ≤ many
variable (L : Cl k c e tops many)
include L
theorem barring : callZ G code (d + 6) 8 [.str k, rm c e tops, .int many] M = .ok (lp (due k c e tops many)) M := by
  rw [x_call (c := c8) rfl]
  generalize hC : callZ G code (d + 5) = C
  have h1 : C 18 [.str k, rm c e tops, .int many] M = .ok .non M := by rw [← hC]; exact check_all L.hk L.R L.hm
  have h2 : C 19 [.str k, rm c e tops, .int many] M = .ok (lp (due k c e tops many)) M := by rw [← hC]; exact barring_in L.hk L.R
  rw [c8]
  simp [h1, h2, ss_cons, ss_nil, s_ret, s_retN, s_ife, s_ex, s_asg, s_par, s_pass, e_and, e_or, e_ite, e_c, e_bi, e_call, e_callK, e_cmp, e_op, e_ix, e_neg, e_tup, e_lst, e_dic0, e_frz, es_cons, es_nil, e_gv, bind_ok, e_not, start_eq, e_var, then_rt, then_nx, end_rt, end_nx, a_name, a_tup, as_nil, as_cons, biSem, ofO_some, tst_bl, tst_tup, notR_ok, O2.sem, C2.sem, sAdd, sSub, sOrd, subTy, newL, is_nn, is_in, is_bb, is_tn, eq_ii, eq_ss, gz7, gz8, gz9, gz10, gz11, gz12]
theorem barringM : callZ G code (d + 6) 13 [.str k, rm c e tops, .int many] M = .ok (.ref M.length) (M ++ [.lst ((due k c e tops many).map pr)]) := by
  rw [x_call (c := c13) rfl]
  generalize hC : callZ G code (d + 5) = C
  have h1 : C 18 [.str k, rm c e tops, .int many] M = .ok .non M := by rw [← hC]; exact check_all L.hk L.R L.hm
  have h2 : C 21 [.str k, rm c e tops, .int many] M = .ok (.ref M.length) (M ++ [.lst ((due k c e tops many).map pr)]) := by rw [← hC]; exact barring_m L.hk L.R
  rw [c13]
  simp [h1, h2, ss_cons, ss_nil, s_ret, s_retN, s_ife, s_ex, s_asg, s_par, s_pass, e_and, e_or, e_ite, e_c, e_bi, e_call, e_callK, e_cmp, e_op, e_ix, e_neg, e_tup, e_lst, e_dic0, e_frz, es_cons, es_nil, e_gv, bind_ok, e_not, start_eq, e_var, then_rt, then_nx, end_rt, end_nx, a_name, a_tup, as_nil, as_cons, biSem, ofO_some, tst_bl, tst_tup, notR_ok, O2.sem, C2.sem, sAdd, sSub, sOrd, subTy, newL, is_nn, is_in, is_bb, is_tn, eq_ii, eq_ss, gz7, gz8, gz9, gz10, gz11, gz12]
end K15
end
section
namespace K15
open PySem L2 ZM
variable {C : Calls} {M : Mem} {c e many : Int} {tops : List Int} {k : Str} {d : Nat}
/-! ### pairs as data -/
def dp (p : Int × Int) : PyData := .tuple [.int p.1, .int p.2]
theorem dat_pr {n : Nat} (p : Int × Int) : datM (n + 1) M (pr p) = some (dp p) := by
  cases n <;> rfl
theorem allO_map {α β : Type} {f : α → Option β} {g : α → β} : ∀ {l : List α}, (∀ a ∈ l, f a = some (g a)) → allO (l.map f) = some (l.map g)
  | [], _ => rfl
  | a :: l, h => by
    rw [List.map_cons, h a List.mem_cons_self, List.map_cons]
    unfold allO
    rw [allO_map fun b hb => h b (List.mem_cons_of_mem _ hb)]
theorem dat_ps {n : Nat} (l : List (Int × Int)) : allO ((l.map pr).map (datM (n + 1) M)) = some (l.map dp) := by
  rw [List.map_map]
  exact allO_map (f := datM (n + 1) M ∘ pr) (g := dp) fun p _ => dat_pr p
theorem dat_lp {n : Nat} (l : List (Int × Int)) : datM (n + 2) M (lp l) = some (.list (l.map dp)) := by
  show (allO ((l.map pr).map (datM (n + 1) M))).map PyData.list = _
  rw [dat_ps]
  rfl
theorem shp_ps (l : List (Int × Int)) : SeqAt.shaped (.list (l.map dp)) = true := by
  have h1 : PyData.canLayAll0 (l.map dp) = true := canAll fun y hy => by
    obtain ⟨p, _, rfl⟩ := List.mem_map.mp hy
    rfl
  have h2 : PyData.depthAll (l.map dp) ≤ 1 := depAll fun y hy => by
    obtain ⟨p, _, rfl⟩ := List.mem_map.mp hy
    exact Nat.le_refl _
  show (PyData.canLayAll0 _ && decide (PyData.depthAll _ + 1 ≤ 64)) = true
  rw [h1, decide_eq_true (by omega)]
  rfl
theorem eqv_dp (p q : Int × Int) : PyData.eqv (dp p) (dp q) = true ↔ p = q := by
  show ((p.1 == q.1) && ((p.2 == q.2) && true)) = true ↔ _
  rw [Bool.and_true, Bool.and_eq_true, beq_iff_eq, beq_iff_eq]
  exact ⟨fun h => Prod.ext h.1 h.2, fun h => by rw [h]; exact ⟨rfl, rfl⟩⟩
theorem bool_of {a b : Bool} (h : a = true ↔ b = true) : a = b := by
  cases a <;> cases b <;> simp_all
/-- what is a list of pairs, written or frozen -/
def IsPs (M : Mem) (z : Z) (l : List (Int × Int)) : Prop := datM 32 M z = some (.list (l.map dp)) ∧ ∀ i, z ≠ .int i
theorem isPs_lp (l : List (Int × Int)) : IsPs M (lp l) l := ⟨dat_lp l, fun i h => by cases h⟩
theorem isPs_nil : IsPs M (.lst []) [] := ⟨rfl, fun i h => by cases h⟩
theorem isPs_ref {n : Nat} {l : List (Int × Int)} (h : M[n]? = some (.lst (l.map pr))) : IsPs M (.ref n) l := by
  refine ⟨?_, fun i h => by cases h⟩
  show (match M[n]? with | some (.lst l) => (allO (l.map (datM 31 M))).map PyData.list | _ => none) = _
  rw [h]
  show (allO ((l.map pr).map (datM 31 M))).map PyData.list = _
  rw [dat_ps]
  rfl
theorem eq_ps {n : Bool} {x y : Z} {l m : List (Int × Int)} (hx : IsPs M x l) (hy : IsPs M y m) {b : Bool} (hb : b = true ↔ l = m) : sEq n x y M = some (.bl (xor n b), M) := by
  rw [eq_data hx.1 hy.1 (shp_ps l) (shp_ps m) fun i j z _ => hx.2 i z]
  have e : PyData.eqv (.list (l.map dp)) (.list (m.map dp)) = b := bool_of ((eqvAll_map eqv_dp).trans hb.symm)
  rw [e]
theorem eq_nil {n : Bool} {x : Z} {l : List (Int × Int)} (hx : IsPs M x l) : sEq n x (.lst []) M = some (.bl (xor n l.isEmpty), M) := eq_ps hx isPs_nil (by simp)
/-! ### the rest of the program -/
section
variable (L : Cl k c e tops many)
include L
theorem can_pass : callZ G code (d + 6) 14 [.str k, rm c e tops, .int many] M = .ok (.bl (due k c e tops many).isEmpty) M := by
  rw [x_call (c := c14) rfl]
  generalize hC : callZ G code (d + 5) = C
  have h1 : C 18 [.str k, rm c e tops, .int many] M = .ok .non M := by rw [← hC]; exact check_all L.hk L.R L.hm
  have h2 : C 22 [.str k, rm c e tops, .int many] M = .ok (.bl (due k c e tops many).isEmpty) M := by
    rw [← hC, x_call (c := c22) rfl]
    generalize hC' : callZ G code (d + 4) = C'
    have h : C' 19 [.str k, rm c e tops, .int many] M = .ok (lp (due k c e tops many)) M := by rw [← hC']; exact barring_in L.hk L.R
    have q := eq_nil (M := M) (n := false) (isPs_lp (due k c e tops many))
    rw [Bool.false_xor] at q
    rw [c22]
    simp [h, q, ss_cons, ss_nil, s_ret, s_retN, s_ife, s_ex, s_asg, s_par, s_pass, e_and, e_or, e_ite, e_c, e_bi, e_call, e_callK, e_cmp, e_op, e_ix, e_neg, e_tup, e_lst, e_dic0, e_frz, es_cons, es_nil, e_gv, bind_ok, e_not, start_eq, e_var, then_rt, then_nx, end_rt, end_nx, a_name, a_tup, as_nil, as_cons, biSem, ofO_some, tst_bl, tst_tup, notR_ok, O2.sem, C2.sem, sAdd, sSub, sOrd, subTy, newL, is_nn, is_in, is_bb, is_tn, eq_ii, eq_ss, gz7, gz8, gz9, gz10, gz11, gz12]
  rw [c14]
  simp [h1, h2, ss_cons, ss_nil, s_ret, s_retN, s_ife, s_ex, s_asg, s_par, s_pass, e_and, e_or, e_ite, e_c, e_bi, e_call, e_callK, e_cmp, e_op, e_ix, e_neg, e_tup, e_lst, e_dic0, e_frz, es_cons, es_nil, e_gv, bind_ok, e_not, start_eq, e_var, then_rt, then_nx, end_rt, end_nx, a_name, a_tup, as_nil, as_cons, biSem, ofO_some, tst_bl, tst_tup, notR_ok, O2.sem, C2.sem, sAdd, sSub, sOrd, subTy, newL, is_nn, is_in, is_bb, is_tn, eq_ii, eq_ss, gz7, gz8, gz9, gz10, gz11, gz12]
def fst0 : List (Int × Int) → Z
  | [] => .non
  | p :: _ => pr p
omit L in
theorem ix_lp0 {p : Int × Int} {l : List (Int × Int)} : sIx (lp (p :: l)) (.int 0) M = some (pr p, M) := by
  simp only [lp, sIx, itsL, atI, ixN, List.map_cons, List.length_cons]
  rw [if_pos (Int.le_refl 0), if_pos (by omega)]
  rfl
theorem first_bar : callZ G code (d + 6) 9 [.str k, rm c e tops, .int many] M = .ok (fst0 (due k c e tops many)) M := by
  rw [x_call (c := c9) rfl]
  generalize hC : callZ G code (d + 5) = C
  have h1 : C 18 [.str k, rm c e tops, .int many] M = .ok .non M := by rw [← hC]; exact check_all L.hk L.R L.hm
  have h2 : C 20 [.str k, rm c e tops, .int many] M = .ok (fst0 (due k c e tops many)) M := by
    rw [← hC, x_call (c := c20) rfl]
    generalize hC' : callZ G code (d + 4) = C'
    have h : C' 19 [.str k, rm c e tops, .int many] M = .ok (lp (due k c e tops many)) M := by rw [← hC']; exact barring_in L.hk L.R
    have q := eq_nil (M := M) (n := true) (isPs_lp (due k c e tops many))
    rw [c20]
    cases hd : due k c e tops many with
    | nil =>
      rw [hd] at h q
      simp only [List.isEmpty_nil, Bool.xor_true, Bool.not_true] at q
      simp [h, q, fst0, ss_cons, ss_nil, s_ret, s_retN, s_ife, s_ex, s_asg, s_par, s_pass, e_and, e_or, e_ite, e_c, e_bi, e_call, e_callK, e_cmp, e_op, e_ix, e_neg, e_tup, e_lst, e_dic0, e_frz, es_cons, es_nil, e_gv, bind_ok, e_not, start_eq, e_var, then_rt, then_nx, end_rt, end_nx, a_name, a_tup, as_nil, as_cons, biSem, ofO_some, tst_bl, tst_tup, notR_ok, O2.sem, C2.sem, sAdd, sSub, sOrd, subTy, newL, is_nn, is_in, is_bb, is_tn, eq_ii, eq_ss, gz7, gz8, gz9, gz10, gz11, gz12]
    | cons p l =>
      rw [hd] at h q
      simp only [List.isEmpty_cons, Bool.xor_false] at q
      have i0 := ix_lp0 (M := M) (p := p) (l := l)
      simp [h, q, fst0, i0, ss_cons, ss_nil, s_ret, s_retN, s_ife, s_ex, s_asg, s_par, s_pass, e_and, e_or, e_ite, e_c, e_bi, e_call, e_callK, e_cmp, e_op, e_ix, e_neg, e_tup, e_lst, e_dic0, e_frz, es_cons, es_nil, e_gv, bind_ok, e_not, start_eq, e_var, then_rt, then_nx, end_rt, end_nx, a_name, a_tup, as_nil, as_cons, biSem, ofO_some, tst_bl, tst_tup, notR_ok, O2.sem, C2.sem, sAdd, sSub, sOrd, subTy, newL, is_nn, is_in, is_bb, is_tn, eq_ii, eq_ss, gz7, gz8, gz9, gz10, gz11, gz12]
  rw [c9]
  simp [h1, h2, ss_cons, ss_nil, s_ret, s_retN, s_ife, s_ex, s_asg, s_par, s_pass, e_and, e_or, e_ite, e_c, e_bi, e_call, e_callK, e_cmp, e_op, e_ix, e_neg, e_tup, e_lst, e_dic0, e_frz, es_cons, es_nil, e_gv, bind_ok, e_not, start_eq, e_var, then_rt, then_nx, end_rt, end_nx, a_name, a_tup, as_nil, as_cons, biSem, ofO_some, tst_bl, tst_tup, notR_ok, O2.sem, C2.sem, sAdd, sSub, sOrd, subTy, newL, is_nn, is_in, is_bb, is_tn, eq_ii, eq_ss, gz7, gz8, gz9, gz10, gz11, gz12]
end
/-! ### is_bar -/
structure Item (M : Mem) (z : Z) : Prop where
  ty : ∃ t, tyM M z = some t
  dat : ∃ q, datM 31 M z = some q ∧ PyData.canLay0 q = true ∧ q.depth ≤ 8
theorem items_dat {l : List Z} (h : ∀ z ∈ l, Item M z) : ∃ ds, allO (l.map (datM 31 M)) = some ds ∧ PyData.canLayAll0 ds = true ∧ PyData.depthAll ds ≤ 8 ∧ ds.length = l.length := by
  induction l with
  | nil => exact ⟨[], rfl, rfl, Nat.zero_le _, rfl⟩
  | cons z r ih =>
    obtain ⟨q, h1, h2, h3⟩ := (h z List.mem_cons_self).dat
    obtain ⟨ds, k1, k2, k3, k4⟩ := ih fun y hy => h y (List.mem_cons_of_mem _ hy)
    refine ⟨q :: ds, ?_, ?_, Nat.max_le.mpr ⟨h3, k3⟩, by rw [List.length_cons, List.length_cons, k4]⟩
    · rw [List.map_cons, h1]
      unfold allO
      rw [k1]
    · show (PyData.canLay0 q && PyData.canLayAll0 ds) = true
      rw [h2, k2]
      rfl
theorem ne_nil {l : List Z} (h : ∀ z ∈ l, Item M z) : sEq true (.lst l) (.lst []) M = some (.bl (!l.isEmpty), M) := by
  obtain ⟨ds, h1, h2, h3, h4⟩ := items_dat h
  have e1 : datM 32 M (.lst l) = some (.list ds) := by
    show (allO (l.map (datM 31 M))).map PyData.list = _
    rw [h1]
    rfl
  have e2 : SeqAt.shaped (.list ds) = true := by
    show (PyData.canLayAll0 _ && decide (PyData.depthAll _ + 1 ≤ 64)) = true
    rw [h2, decide_eq_true (by omega)]
    rfl
  rw [eq_data e1 (q := .list []) rfl e2 rfl fun _ _ z _ => by cases z]
  cases l with
  | nil =>
    cases ds with
    | nil => rfl
    | cons _ _ => simp at h4
  | cons z r =>
    cases ds with
    | nil => simp at h4
    | cons _ _ => rfl
def okI (many : Int) : Z → Bool
  | .int i => decide (0 ≤ i) && decide (i ≤ many)
  | _ => false
theorem comp16 {l : List Z} {x y : Option Z} (hb : BtO C M) (h : ∀ z ∈ l, Item M z) (hl : l.length ≤ 100) : den C G c16_0 [x, y, some (.int many), some (.tup l), none] M = .ok (.lst (l.filter fun z => !okI many z)) M := by
  unfold c16_0
  rw [comp_pure (zs := [.tup l]) (l := l) (fun z => !okI many z) id (by simp [ss_cons, ss_nil, s_ret, s_retN, s_ife, s_ex, s_asg, s_par, s_pass, e_and, e_or, e_ite, e_c, e_bi, e_call, e_callK, e_cmp, e_op, e_ix, e_neg, e_tup, e_lst, e_dic0, e_frz, es_cons, es_nil, e_gv, bind_ok, e_not, start_eq, e_var, then_rt, then_nx, end_rt, end_nx, a_name, a_tup, as_nil, as_cons, biSem, ofO_some, tst_bl, tst_tup, notR_ok, O2.sem, C2.sem, sAdd, sSub, sOrd, subTy, newL, is_nn, is_in, is_bb, is_tn, eq_ii, eq_ss, gz7, gz8, gz9, gz10, gz11, gz12]) rfl ?_ (line1000 (by omega))]
  · rw [List.map_id]
    rfl
  · intro z hz
    refine ⟨[x, y, some (.int many), some (.tup l), some z], rfl, ?_, fun _ => ?_⟩
    · obtain ⟨t, ht⟩ := (h z hz).ty
      by_cases hi : ∃ i, z = .int i
      · obtain ⟨i, rfl⟩ := hi
        have q := hb.lohi i 0 many
        simp [t_one, okI, q, ss_cons, ss_nil, s_ret, s_retN, s_ife, s_ex, s_asg, s_par, s_pass, e_and, e_or, e_ite, e_c, e_bi, e_call, e_callK, e_cmp, e_op, e_ix, e_neg, e_tup, e_lst, e_dic0, e_frz, es_cons, es_nil, e_gv, bind_ok, e_not, start_eq, e_var, then_rt, then_nx, end_rt, end_nx, a_name, a_tup, as_nil, as_cons, biSem, ofO_some, tst_bl, tst_tup, notR_ok, O2.sem, C2.sem, sAdd, sSub, sOrd, subTy, newL, is_nn, is_in, is_bb, is_tn, eq_ii, eq_ss, gz7, gz8, gz9, gz10, gz11, gz12]
      · have hn : t ≠ .int := by
          intro et
          subst et
          cases z <;> simp [tyM, tyZ] at ht
          · exact hi ⟨_, rfl⟩
          · split at ht <;> cases ht
        have q := hb.no z (.int 0) (.int many) t ht hn
        have e : okI many z = false := by
          cases z <;> first | rfl | exact (hi ⟨_, rfl⟩).elim
        simp [t_one, e, q, ss_cons, ss_nil, s_ret, s_retN, s_ife, s_ex, s_asg, s_par, s_pass, e_and, e_or, e_ite, e_c, e_bi, e_call, e_callK, e_cmp, e_op, e_ix, e_neg, e_tup, e_lst, e_dic0, e_frz, es_cons, es_nil, e_gv, bind_ok, e_not, start_eq, e_var, then_rt, then_nx, end_rt, end_nx, a_name, a_tup, as_nil, as_cons, biSem, ofO_some, tst_bl, tst_tup, notR_ok, O2.sem, C2.sem, sAdd, sSub, sOrd, subTy, newL, is_nn, is_in, is_bb, is_tn, eq_ii, eq_ss, gz7, gz8, gz9, gz10, gz11, gz12]
    · simp [ss_cons, ss_nil, s_ret, s_retN, s_ife, s_ex, s_asg, s_par, s_pass, e_and, e_or, e_ite, e_c, e_bi, e_call, e_callK, e_cmp, e_op, e_ix, e_neg, e_tup, e_lst, e_dic0, e_frz, es_cons, es_nil, e_gv, bind_ok, e_not, start_eq, e_var, then_rt, then_nx, end_rt, end_nx, a_name, a_tup, as_nil, as_cons, biSem, ofO_some, tst_bl, tst_tup, notR_ok, O2.sem, C2.sem, sAdd, sSub, sOrd, subTy, newL, is_nn, is_in, is_bb, is_tn, eq_ii, eq_ss, gz7, gz8, gz9, gz10, gz11, gz12]
theorem marks_in' (R : Rm c e tops) (hm : 1 ≤ many) : ∀ x ∈ marks tops many, 0 ≤ x ∧ x ≤ many := by
  intro x hx
  unfold marks at hx
  rcases List.mem_cons.mp hx with e | e
  · omega
  · rcases List.mem_append.mp e with e | e
    · obtain ⟨h1, h2⟩ := List.mem_filter.mp e
      have := R.t1 x h1
      have := of_decide_eq_true h2
      omega
    · rw [List.mem_singleton] at e
      omega
theorem due_in (R : Rm c e tops) (hm : 1 ≤ many) {p : Int × Int} (h : p ∈ due k c e tops many) : (0 ≤ p.1 ∧ p.1 ≤ many) ∧ (0 ≤ p.2 ∧ p.2 ≤ many) := by
  have h1 := (List.mem_filter.mp h).1
  unfold nb at h1
  have h2 := List.of_mem_zip (a := p.1) (b := p.2) h1
  exact ⟨marks_in' R hm _ h2.1, marks_in' R hm _ (List.mem_of_mem_tail h2.2)⟩
theorem all_int {l : List Z} (h : l.all (okI many) = true) : ∃ ns : List Int, l = ns.map .int := by
  induction l with
  | nil => exact ⟨[], rfl⟩
  | cons z r ih =>
    rw [List.all_cons, Bool.and_eq_true] at h
    obtain ⟨ns, e⟩ := ih h.2
    cases z <;> first | (cases h.1; done) | skip
    rename_i i
    exact ⟨i :: ns, by rw [e]; rfl⟩
theorem dat_ints {n : Nat} : ∀ ns : List Int, allO ((ns.map Z.int).map (datM n M)) = some (ns.map PyData.int) := fun ns => by
  rw [List.map_map]
  exact allO_map (f := datM n M ∘ Z.int) (g := PyData.int) fun i _ => by cases n <;> rfl
theorem in_ps {ns : List Int} {l : List (Int × Int)} {b : Bool} (hb : b = true ↔ ∃ p ∈ l, ns = [p.1, p.2]) : sIn false (.tup (ns.map .int)) (lp l) M = some (.bl b, M) := by
  have e1 : datM 32 M (.tup (ns.map .int)) = some (.tuple (ns.map .int)) := by
    show (allO ((ns.map Z.int).map (datM 31 M))).map PyData.tuple = _
    rw [dat_ints]
    rfl
  have s1 : SeqAt.shaped (.tuple (ns.map .int)) = true := by
    have h1 : PyData.canLayAll0 (ns.map PyData.int) = true := canAll fun y hy => by
      obtain ⟨p, _, rfl⟩ := List.mem_map.mp hy
      rfl
    have h2 : PyData.depthAll (ns.map PyData.int) ≤ 0 := depAll fun y hy => by
      obtain ⟨p, _, rfl⟩ := List.mem_map.mp hy
      exact Nat.le_refl _
    show (PyData.canLayAll0 _ && decide (PyData.depthAll _ + 1 ≤ 64)) = true
    rw [h1, decide_eq_true (by omega)]
    rfl
  have e2 : datM 32 M (lp l) = some (.list (l.map dp)) := dat_lp l
  unfold sIn
  split
  · rename_i q z
    cases z
  · rw [e1, e2]
    dsimp only
    rw [s1, shp_ps]
    have eb : ((l.map dp).any fun z => PyData.eqv z (.tuple (ns.map .int))) = b := by
      rw [List.any_map]
      refine bool_of (Iff.trans ?_ hb.symm)
      rw [List.any_eq_true]
      have eq1 : ∀ p : Int × Int, PyData.eqv (dp p) (.tuple (ns.map .int)) = true ↔ ns = [p.1, p.2] := fun p => by
        match ns with
        | [] => exact ⟨fun z => (by have z : false = true := z; cases z), fun z => (by cases z)⟩
        | [x] =>
          refine ⟨fun z => ?_, fun z => by cases z⟩
          have z : ((p.1 == x) && false) = true := z
          rw [Bool.and_false] at z
          cases z
        | [x, y] =>
          show ((p.1 == x) && ((p.2 == y) && true)) = true ↔ [x, y] = [p.1, p.2]
          rw [Bool.and_true, Bool.and_eq_true, beq_iff_eq, beq_iff_eq]
          exact ⟨fun h => by rw [h.1, h.2], fun h => by cases h; exact ⟨rfl, rfl⟩⟩
        | x :: y :: w :: r =>
          refine ⟨fun z => ?_, fun z => by cases z⟩
          have z : ((p.1 == x) && ((p.2 == y) && false)) = true := z
          rw [Bool.and_false, Bool.and_false] at z
          cases z
      exact ⟨fun ⟨p, h1, h2⟩ => ⟨p, h1, (eq1 p).mp h2⟩, fun ⟨p, h1, h2⟩ => ⟨p, h1, (eq1 p).mpr h2⟩⟩
    rw [eb, Bool.false_xor]
    rfl
/-- a value that is judged -/
inductive Val (M : Mem) : Z → Prop
  | tup (l : List Z) : l.length ≤ 100 → (∀ z ∈ l, Item M z) → Val M (.tup l)
  | no (z : Z) (t : Ty) : tyM M z = some t → t ≠ .tup → (∀ l, z ≠ .tup l) → Val M z
theorem is_bar (L : Cl k c e tops many) {v : Z} (hv : Val M v) {b : Bool} (hb : b = true ↔ ∃ p ∈ due k c e tops many, v = pr p) : callZ G code (d + 6) 16 [.str k, rm c e tops, .int many, v] M = .ok (.bl b) M := by
  rw [x_call (c := c16) rfl]
  generalize hC : callZ G code (d + 5) = C
  have h1 : C 18 [.str k, rm c e tops, .int many] M = .ok .non M := by rw [← hC]; exact check_all L.hk L.R L.hm
  have h2 : C 19 [.str k, rm c e tops, .int many] M = .ok (lp (due k c e tops many)) M := by rw [← hC]; exact barring_in L.hk L.R
  have hB : BtO C M := by rw [← hC]; exact btO (d + 3) M
  rw [c16]
  cases hv with
  | no z t ht hn hz =>
    have e : b = false := by
      cases b with
      | false => rfl
      | true =>
        obtain ⟨p, _, q⟩ := hb.mp rfl
        exact (hz _ q).elim
    have st : subTy t .tup = false := by cases t <;> first | rfl | exact (hn rfl).elim
    subst e
    cases t <;> first | exact absurd rfl hn | simp [h1, ht, ss_cons, ss_nil, s_ret, s_retN, s_ife, s_ex, s_asg, s_par, s_pass, e_and, e_or, e_ite, e_c, e_bi, e_call, e_callK, e_cmp, e_op, e_ix, e_neg, e_tup, e_lst, e_dic0, e_frz, es_cons, es_nil, e_gv, bind_ok, e_not, start_eq, e_var, then_rt, then_nx, end_rt, end_nx, a_name, a_tup, as_nil, as_cons, biSem, ofO_some, tst_bl, tst_tup, notR_ok, O2.sem, C2.sem, sAdd, sSub, sOrd, subTy, newL, is_nn, is_in, is_bb, is_tn, eq_ii, eq_ss, gz7, gz8, gz9, gz10, gz11, gz12]
  | tup l hl hi =>
    have q := comp16 (x := some (.str k)) (y := some (rm c e tops)) (many := many) hB hi hl
    have qn := ne_nil (M := M) (l := l.filter fun z => !okI many z) fun z hz => hi z (List.mem_filter.mp hz).1
    by_cases ha : l.all (okI many) = true
    · have e0 : (l.filter fun z => !okI many z) = [] := filter_none fun z hz => by
        rw [List.all_eq_true.mp ha z hz]
        rfl
      rw [e0] at q qn
      simp only [List.isEmpty_nil, Bool.not_true] at qn
      obtain ⟨ns, rfl⟩ := all_int ha
      have qi := in_ps (M := M) (ns := ns) (l := due k c e tops many) (b := b) (hb.trans ⟨fun ⟨p, h1, h2⟩ => ⟨p, h1, by
        have h3 : (ns.map Z.int) = [p.1, p.2].map Z.int := (Z.tup.inj h2)
        exact (List.map_inj_right (fun x y h => Z.int.inj h)).mp h3⟩, fun ⟨p, h1, h2⟩ => ⟨p, h1, by rw [h2]; rfl⟩⟩)
      simp [h1, h2, q, qn, qi, tyM, tyZ, ss_cons, ss_nil, s_ret, s_retN, s_ife, s_ex, s_asg, s_par, s_pass, e_and, e_or, e_ite, e_c, e_bi, e_call, e_callK, e_cmp, e_op, e_ix, e_neg, e_tup, e_lst, e_dic0, e_frz, es_cons, es_nil, e_gv, bind_ok, e_not, start_eq, e_var, then_rt, then_nx, end_rt, end_nx, a_name, a_tup, as_nil, as_cons, biSem, ofO_some, tst_bl, tst_tup, notR_ok, O2.sem, C2.sem, sAdd, sSub, sOrd, subTy, newL, is_nn, is_in, is_bb, is_tn, eq_ii, eq_ss, gz7, gz8, gz9, gz10, gz11, gz12]
    · have e : b = false := by
        cases b with
        | false => rfl
        | true =>
          obtain ⟨p, hp, q⟩ := hb.mp rfl
          obtain ⟨⟨a1, a2⟩, a3, a4⟩ := due_in L.R L.hm hp
          have : l = [.int p.1, .int p.2] := Z.tup.inj q
          subst this
          exact (ha (by simp [okI, a1, a2, a3, a4])).elim
      subst e
      have en : (l.filter fun z => !okI many z).isEmpty = false := by
        cases hf : l.filter fun z => !okI many z with
        | cons _ _ => rfl
        | nil =>
          exfalso
          apply ha
          rw [List.all_eq_true]
          intro z hz
          have := (List.filter_eq_nil_iff.mp hf) z hz
          simpa using this
      rw [en] at qn
      simp [h1, q, qn, tyM, tyZ, ss_cons, ss_nil, s_ret, s_retN, s_ife, s_ex, s_asg, s_par, s_pass, e_and, e_or, e_ite, e_c, e_bi, e_call, e_callK, e_cmp, e_op, e_ix, e_neg, e_tup, e_lst, e_dic0, e_frz, es_cons, es_nil, e_gv, bind_ok, e_not, start_eq, e_var, then_rt, then_nx, end_rt, end_nx, a_name, a_tup, as_nil, as_cons, biSem, ofO_some, tst_bl, tst_tup, notR_ok, O2.sem, C2.sem, sAdd, sSub, sOrd, subTy, newL, is_nn, is_in, is_bb, is_tn, eq_ii, eq_ss, gz7, gz8, gz9, gz10, gz11, gz12]
end K15
end
section
namespace K15
open PySem L2 ZM
variable {C : Calls} {M : Mem} {c e many : Int} {tops : List Int} {k : Str} {d : Nat}
/-! ### the law's own bound and stretches -/
theorem mul_ok {m : Bool} {i j : Int} (hi : smal i = true) (hj : smal j = true) : sMul m (.int i) (.int j) M = some (.int (i * j), M) := by
  unfold sMul
  simp only [hi, hj, Bool.and_self, if_true]
theorem pow_sm {n : Nat} (h : n ≤ 100) : smal ((2 : Int) ^ n) = true := by
  refine smal40 (Int.le_of_lt (Int.pow_pos (by decide))) ?_
  have e : (2 : Int) ^ n ≤ 2 ^ 100 := by
    have := Nat.pow_le_pow_right (by decide : 0 < 2) h
    exact_mod_cast this
  exact Int.lt_of_le_of_lt e (by decide +kernel)
theorem int_bl {b : Bool} : biSem .int [.bl b] M = some (.int (if b then 1 else 0), M) := id rfl
theorem lbound (hk : Kd k) (R : Rm c e tops) : callZ G code (d + 1) 5 [.str k, rm c e tops] M = .ok (.int (bnd k c e)) M := by
  rw [x_call (c := c5) rfl]
  generalize hC : callZ G code d = C
  have r1 := R.c0
  have r2 := R.cB
  have r3 := R.e0
  have r4 := R.eB
  have K1 := kq (M := M) (n := false) hk
  have s1 : smal (c + 1) = true := smal40 (by omega) (small (by omega))
  rw [c5]
  unfold bnd
  by_cases h : k = "into"
  · subst h
    rw [if_pos rfl]
    simp only [decide_true, Bool.false_xor] at K1
    by_cases he : 0 < e
    · have hn : ¬ e = 0 := by omega
      have q := shl_ok (M := M) (i := 1) (j := e - 1) (by decide) (by decide +kernel) (by omega) (by omega)
      rw [Int.one_mul] at q
      have qm := mul_ok (M := M) (m := false) s1 (pow_sm (n := (e - 1).toNat) (by omega))
      rw [if_pos he]
      generalize (2 : Int) ^ (e - 1).toNat = P at q qm ⊢
      simp [rm, K1, hn, q, qm, int_bl, O2.sem, ss_cons, ss_nil, s_ret, s_retN, s_ife, s_ex, s_asg, s_par, s_pass, e_and, e_or, e_ite, e_c, e_bi, e_call, e_callK, e_cmp, e_op, e_ix, e_neg, e_tup, e_lst, e_dic0, e_frz, es_cons, es_nil, e_gv, bind_ok, e_not, start_eq, e_var, then_rt, then_nx, end_rt, end_nx, a_name, a_tup, as_nil, as_cons, biSem, ofO_some, tst_bl, tst_tup, notR_ok, O2.sem, C2.sem, sAdd, sSub, sOrd, subTy, newL, is_nn, is_in, is_bb, is_tn, eq_ii, eq_ss, gz7, gz8, gz9, gz10, gz11, gz12, -biSem]
    · have h0 : e = 0 := by omega
      subst h0
      simp [rm, K1, ss_cons, ss_nil, s_ret, s_retN, s_ife, s_ex, s_asg, s_par, s_pass, e_and, e_or, e_ite, e_c, e_bi, e_call, e_callK, e_cmp, e_op, e_ix, e_neg, e_tup, e_lst, e_dic0, e_frz, es_cons, es_nil, e_gv, bind_ok, e_not, start_eq, e_var, then_rt, then_nx, end_rt, end_nx, a_name, a_tup, as_nil, as_cons, biSem, ofO_some, tst_bl, tst_tup, notR_ok, O2.sem, C2.sem, sAdd, sSub, sOrd, subTy, newL, is_nn, is_in, is_bb, is_tn, eq_ii, eq_ss, gz7, gz8, gz9, gz10, gz11, gz12]
  · rw [if_neg h]
    simp only [decide_eq_false h, Bool.false_xor] at K1
    have q := shl_ok (M := M) (i := 1) (j := e) (by decide) (by decide +kernel) (by omega) (by omega)
    rw [Int.one_mul] at q
    have qm := mul_ok (M := M) (m := false) s1 (pow_sm (n := e.toNat) (by omega))
    generalize (2 : Int) ^ e.toNat = P at q qm ⊢
    simp [rm, K1, q, qm, int_bl, O2.sem, ss_cons, ss_nil, s_ret, s_retN, s_ife, s_ex, s_asg, s_par, s_pass, e_and, e_or, e_ite, e_c, e_bi, e_call, e_callK, e_cmp, e_op, e_ix, e_neg, e_tup, e_lst, e_dic0, e_frz, es_cons, es_nil, e_gv, bind_ok, e_not, start_eq, e_var, then_rt, then_nx, end_rt, end_nx, a_name, a_tup, as_nil, as_cons, biSem, ofO_some, tst_bl, tst_tup, notR_ok, O2.sem, C2.sem, sAdd, sSub, sOrd, subTy, newL, is_nn, is_in, is_bb, is_tn, eq_ii, eq_ss, gz7, gz8, gz9, gz10, gz11, gz12, -biSem]
theorem add1 {fl : List Int} (h : fl.length ≤ 200) : sAdd false (.lst [.int 0]) (lz fl) M = some (lz (0 :: fl), M) := by
  unfold sAdd lz
  simp only [ownL, newL, List.length_cons, List.length_nil, List.length_map]
  rw [if_pos (line1000 (by omega))]
  rfl
theorem add2 {fl : List Int} (h : fl.length ≤ 200) : sAdd false (lz (0 :: fl)) (.lst [.int many]) M = some (lz (0 :: (fl ++ [many])), M) := by
  unfold sAdd lz
  simp only [ownL, newL, List.length_cons, List.length_nil, List.length_map]
  rw [if_pos (line1000 (by omega))]
  simp
theorem comp15_0 (hl : tops.length ≤ 100) : den C G c15_0 [some (lz tops), some (.int many), none, none, none] M = .ok (lz (tops.filter fun t => decide (t < many))) M := by
  unfold c15_0
  rw [comp_pure (zs := [lz tops]) (l := tops.map .int) (ltZ many) id (by simp [ss_cons, ss_nil, s_ret, s_retN, s_ife, s_ex, s_asg, s_par, s_pass, e_and, e_or, e_ite, e_c, e_bi, e_call, e_callK, e_cmp, e_op, e_ix, e_neg, e_tup, e_lst, e_dic0, e_frz, es_cons, es_nil, e_gv, bind_ok, e_not, start_eq, e_var, then_rt, then_nx, end_rt, end_nx, a_name, a_tup, as_nil, as_cons, biSem, ofO_some, tst_bl, tst_tup, notR_ok, O2.sem, C2.sem, sAdd, sSub, sOrd, subTy, newL, is_nn, is_in, is_bb, is_tn, eq_ii, eq_ss, gz7, gz8, gz9, gz10, gz11, gz12]) rfl ?_ (by rw [List.length_map]; exact line1000 (by omega))]
  · rw [filt_int, List.map_id]
    rfl
  · intro z hz
    obtain ⟨t, ht, rfl⟩ := List.mem_map.mp hz
    refine ⟨[some (lz tops), some (.int many), none, none, some (.int t)], rfl, ?_, fun _ => ?_⟩
    · simp [t_one, ltZ, ss_cons, ss_nil, s_ret, s_retN, s_ife, s_ex, s_asg, s_par, s_pass, e_and, e_or, e_ite, e_c, e_bi, e_call, e_callK, e_cmp, e_op, e_ix, e_neg, e_tup, e_lst, e_dic0, e_frz, es_cons, es_nil, e_gv, bind_ok, e_not, start_eq, e_var, then_rt, then_nx, end_rt, end_nx, a_name, a_tup, as_nil, as_cons, biSem, ofO_some, tst_bl, tst_tup, notR_ok, O2.sem, C2.sem, sAdd, sSub, sOrd, subTy, newL, is_nn, is_in, is_bb, is_tn, eq_ii, eq_ss, gz7, gz8, gz9, gz10, gz11, gz12]
    · simp [ss_cons, ss_nil, s_ret, s_retN, s_ife, s_ex, s_asg, s_par, s_pass, e_and, e_or, e_ite, e_c, e_bi, e_call, e_callK, e_cmp, e_op, e_ix, e_neg, e_tup, e_lst, e_dic0, e_frz, es_cons, es_nil, e_gv, bind_ok, e_not, start_eq, e_var, then_rt, then_nx, end_rt, end_nx, a_name, a_tup, as_nil, as_cons, biSem, ofO_some, tst_bl, tst_tup, notR_ok, O2.sem, C2.sem, sAdd, sSub, sOrd, subTy, newL, is_nn, is_in, is_bb, is_tn, eq_ii, eq_ss, gz7, gz8, gz9, gz10, gz11, gz12]
def pairAt1 (l : List Int) : Z → Z
  | .int i => pr (l.getD i.toNat 0, l.getD (i + 1).toNat 0)
  | _ => .non
theorem comp15_1 {l : List Int} {x y w : Option Z} (h1 : 1 ≤ l.length) (hl : l.length ≤ 200) : den C G c15_1 [x, y, some (lz l), none, w] M = .ok (lp (nb l)) M := by
  unfold c15_1
  rw [comp_pure (zs := [.int (l.length - 1)]) (l := rangeZ 0 (l.length - 1)) (fun _ => true) (pairAt1 l) (by simp [ss_cons, ss_nil, s_ret, s_retN, s_ife, s_ex, s_asg, s_par, s_pass, e_and, e_or, e_ite, e_c, e_bi, e_call, e_callK, e_cmp, e_op, e_ix, e_neg, e_tup, e_lst, e_dic0, e_frz, es_cons, es_nil, e_gv, bind_ok, e_not, start_eq, e_var, then_rt, then_nx, end_rt, end_nx, a_name, a_tup, as_nil, as_cons, biSem, ofO_some, tst_bl, tst_tup, notR_ok, O2.sem, C2.sem, sAdd, sSub, sOrd, subTy, newL, is_nn, is_in, is_bb, is_tn, eq_ii, eq_ss, gz7, gz8, gz9, gz10, gz11, gz12, lz, itsL]) ?_ ?_ (by rw [rangeZ_len]; exact line1000 (by omega))]
  · rw [List.filter_eq_self.mpr (fun _ _ => rfl), range_nb (l := l) (lo := 0) (f := pairAt1 l) fun i hi => ?_]
    · rfl
    · show pr (l.getD (0 + (i : Int)).toNat 0, l.getD (0 + (i : Int) + 1).toNat 0) = _
      have e1 : (0 + (i : Int)).toNat = i := by omega
      have e2 : (0 + (i : Int) + 1).toNat = i + 1 := by omega
      rw [e1, e2]
  · simp only [itemsZ, itRange1]
    rw [if_pos (by simp only [Bool.and_eq_true, decide_eq_true_eq]; omega)]
    congr 1
    congr 1
    omega
  · intro z hz
    obtain ⟨i, rfl, h1, h2⟩ := mem_range hz
    refine ⟨[x, y, some (lz l), some (.int i), w], rfl, t_nil, fun _ => ?_⟩
    have a1 := ix_lz (M := M) (l := l) (i := i) (by omega) (by omega)
    have a2 := ix_lz (M := M) (l := l) (i := i + 1) (by omega) (by omega)
    have e3 : 2 ≤ sizeLine := by decide
    simp [ss_cons, ss_nil, s_ret, s_retN, s_ife, s_ex, s_asg, s_par, s_pass, e_and, e_or, e_ite, e_c, e_bi, e_call, e_callK, e_cmp, e_op, e_ix, e_neg, e_tup, e_lst, e_dic0, e_frz, es_cons, es_nil, e_gv, bind_ok, e_not, start_eq, e_var, then_rt, then_nx, end_rt, end_nx, a_name, a_tup, as_nil, as_cons, biSem, ofO_some, tst_bl, tst_tup, notR_ok, O2.sem, C2.sem, sAdd, sSub, sOrd, subTy, newL, is_nn, is_in, is_bb, is_tn, eq_ii, eq_ss, gz7, gz8, gz9, gz10, gz11, gz12, a1, a2, pairAt1, pr, e3, -List.getD_eq_getElem?_getD]
theorem lstretches (hl : tops.length ≤ 100) : callZ G code (d + 1) 15 [lz tops, .int many] M = .ok (lp (nb (marks tops many))) M := by
  rw [x_call (c := c15) rfl]
  generalize hC : callZ G code d = C
  have hm := marks_len (tops := tops) (many := many)
  have hf : (tops.filter fun t => decide (t < many)).length ≤ 200 := Nat.le_trans (List.length_filter_le _ _) (by omega)
  have q0 := comp15_0 (C := C) (M := M) (many := many) hl
  have p1 := add1 (M := M) hf
  have p2 := add2 (M := M) (many := many) hf
  have q := comp15_1 (C := C) (M := M) (l := marks tops many) (x := some (lz tops)) (y := some (.int many)) (w := none) (by unfold marks; simp) (by omega)
  unfold marks at q ⊢
  have e3 : 1 ≤ sizeLine := by decide
  rw [c15]
  simp [q0, p1, p2, q, e3, ss_cons, ss_nil, s_ret, s_asg, a_name, bind_ok, e_op, e_lst, es_cons, es_nil, e_c, e_var, O2.sem, ofO_some, newL, then_rt, then_nx, end_rt, start_eq]
theorem comp12 {l : List (Int × Int)} {b : Int} (h5 : C 5 [.str k, rm c e tops] M = .ok (.int b) M) (hC : C 15 [lz tops, .int many] M = .ok (lp l) M) (hl : l.length ≤ 200) : den C G c12_0 [some (.str k), some (rm c e tops), some (.int many), none, none] M = .ok (lp (l.filter fun p => decide (b < p.2 - p.1))) M := by
  unfold c12_0
  rw [comp_pure (zs := [lp l]) (l := l.map pr) (dueZ b) id (by simp [ss_cons, ss_nil, s_ret, s_retN, s_ife, s_ex, s_asg, s_par, s_pass, e_and, e_or, e_ite, e_c, e_bi, e_call, e_callK, e_cmp, e_op, e_ix, e_neg, e_tup, e_lst, e_dic0, e_frz, es_cons, es_nil, e_gv, bind_ok, e_not, start_eq, e_var, then_rt, then_nx, end_rt, end_nx, a_name, a_tup, as_nil, as_cons, biSem, ofO_some, tst_bl, tst_tup, notR_ok, O2.sem, C2.sem, sAdd, sSub, sOrd, subTy, newL, is_nn, is_in, is_bb, is_tn, eq_ii, eq_ss, gz7, gz8, gz9, gz10, gz11, gz12, ix2, hC]) rfl ?_ (by rw [List.length_map]; exact line1000 (by omega))]
  · rw [filt_pr, List.map_id]
    rfl
  · intro z hz
    obtain ⟨p, hp, rfl⟩ := List.mem_map.mp hz
    have e3 : 2 ≤ sizeLine := by decide
    refine ⟨[some (.str k), some (rm c e tops), some (.int many), some (.int p.1), some (.int p.2)], rfl, ?_, fun _ => ?_⟩
    · simp [t_one, dueZ, pr, h5, ss_cons, ss_nil, s_ret, s_retN, s_ife, s_ex, s_asg, s_par, s_pass, e_and, e_or, e_ite, e_c, e_bi, e_call, e_callK, e_cmp, e_op, e_ix, e_neg, e_tup, e_lst, e_dic0, e_frz, es_cons, es_nil, e_gv, bind_ok, e_not, start_eq, e_var, then_rt, then_nx, end_rt, end_nx, a_name, a_tup, as_nil, as_cons, biSem, ofO_some, tst_bl, tst_tup, notR_ok, O2.sem, C2.sem, sAdd, sSub, sOrd, subTy, newL, is_nn, is_in, is_bb, is_tn, eq_ii, eq_ss, gz7, gz8, gz9, gz10, gz11, gz12]
    · simp [ss_cons, ss_nil, s_ret, s_retN, s_ife, s_ex, s_asg, s_par, s_pass, e_and, e_or, e_ite, e_c, e_bi, e_call, e_callK, e_cmp, e_op, e_ix, e_neg, e_tup, e_lst, e_dic0, e_frz, es_cons, es_nil, e_gv, bind_ok, e_not, start_eq, e_var, then_rt, then_nx, end_rt, end_nx, a_name, a_tup, as_nil, as_cons, biSem, ofO_some, tst_bl, tst_tup, notR_ok, O2.sem, C2.sem, sAdd, sSub, sOrd, subTy, newL, is_nn, is_in, is_bb, is_tn, eq_ii, eq_ss, gz7, gz8, gz9, gz10, gz11, gz12, pr, e3]
theorem lbarring (hk : Kd k) (R : Rm c e tops) : callZ G code (d + 2) 12 [.str k, rm c e tops, .int many] M = .ok (lp (due k c e tops many)) M := by
  rw [x_call (c := c12) rfl]
  generalize hC : callZ G code (d + 1) = C
  have h1 : C 5 [.str k, rm c e tops] M = .ok (.int (bnd k c e)) M := by rw [← hC]; exact lbound hk R
  have h2 : C 15 [lz tops, .int many] M = .ok (lp (nb (marks tops many))) M := by rw [← hC]; exact lstretches R.len
  have q := comp12 (c := c) (e := e) h1 h2 (nbm_len R.len)
  rw [c12]
  simp [q, ss_cons, ss_nil, s_ret, s_retN, s_ife, s_ex, s_asg, s_par, s_pass, e_and, e_or, e_ite, e_c, e_bi, e_call, e_callK, e_cmp, e_op, e_ix, e_neg, e_tup, e_lst, e_dic0, e_frz, es_cons, es_nil, e_gv, bind_ok, e_not, start_eq, e_var, then_rt, then_nx, end_rt, end_nx, a_name, a_tup, as_nil, as_cons, biSem, ofO_some, tst_bl, tst_tup, notR_ok, O2.sem, C2.sem, sAdd, sSub, sOrd, subTy, newL, is_nn, is_in, is_bb, is_tn, eq_ii, eq_ss, gz7, gz8, gz9, gz10, gz11, gz12]
  rfl
end K15
end
section
namespace K15
open PySem L2 ZM
variable {C : Calls} {M : Mem} {c e many : Int} {tops : List Int} {k : Str} {d : Nat}
/-! ### what is shown -/
def Sm (i : Int) : Prop := i.natAbs < 2 ^ 150
theorem sm_log {i : Int} (h : Sm i) : i.natAbs.log2 < 150 := PySem.Flt.log2_lt_of (by decide) h
theorem sm_shw {i : Int} (h : Sm i) : shwD (.int i) = true := by
  have := sm_log h
  exact decide_eq_true (by omega)
theorem sm_sz {i : Int} (h : Sm i) : szD (.int i) ≤ 152 := by
  have := sm_log h
  show i.natAbs.log2 + 2 ≤ 152
  omega
theorem sm_of {i : Int} (h0 : -(2 ^ 120) ≤ i) (h1 : i ≤ 2 ^ 120) : Sm i := by
  have e : (2 : Nat) ^ 120 < 2 ^ 150 := by decide +kernel
  have e2 : ((2 ^ 120 : Nat) : Int) = 2 ^ 120 := by norm_cast
  unfold Sm
  omega
theorem rep_ok {x : Z} {q : PyData} (h : datM 32 M x = some q) (h1 : shwD q = true) (h2 : szD q ≤ 100000) (h3 : q.depth ≤ 64) (hn : x ≠ .dic0) : biSem .repr [x] M = some (.rep q, M) := by
  have hs : shwOk q = true := by
    unfold shwOk
    rw [h1, decide_eq_true (Nat.le_trans h2 (by decide)), decide_eq_true h3]
    rfl
  cases x <;> first | exact absurd rfl hn | simp only [biSem, h, hs, if_true]
theorem dp_shw {p : Int × Int} (h1 : Sm p.1) (h2 : Sm p.2) : shwD (dp p) = true := by
  show (shwD (.int p.1) && (shwD (.int p.2) && true)) = true
  rw [sm_shw h1, sm_shw h2]
  rfl
theorem dp_sz {p : Int × Int} (h1 : Sm p.1) (h2 : Sm p.2) : szD (dp p) ≤ 400 := by
  have a := sm_sz h1
  have b := sm_sz h2
  show szD (.int p.1) + 2 + (szD (.int p.2) + 2 + 0) + 5 ≤ 400
  omega
theorem rep_ps {x : Z} {l : List (Int × Int)} (hx : IsPs M x l) (hn : x ≠ .dic0) (hl : l.length ≤ 200) (h : ∀ p ∈ l, Sm p.1 ∧ Sm p.2) : biSem .repr [x] M = some (.rep (.list (l.map dp)), M) := by
  refine rep_ok hx.1 ?_ ?_ ?_ hn
  · exact shwAll fun y hy => by
      obtain ⟨p, hp, rfl⟩ := List.mem_map.mp hy
      exact dp_shw (h p hp).1 (h p hp).2
  · have q := szAll (ds := l.map dp) (n := 400) fun y hy => by
      obtain ⟨p, hp, rfl⟩ := List.mem_map.mp hy
      exact dp_sz (h p hp).1 (h p hp).2
    rw [List.length_map] at q
    show szDs _ + 4 ≤ _
    have : l.length * (400 + 2) ≤ 200 * 402 := Nat.mul_le_mul_right _ hl
    omega
  · have q : PyData.depthAll (l.map dp) ≤ 1 := depAll fun y hy => by
      obtain ⟨p, _, rfl⟩ := List.mem_map.mp hy
      exact Nat.le_refl _
    show PyData.depthAll _ + 1 ≤ 64
    omega
theorem smp_dp (p : Int × Int) : smp (dp p) = true := rfl
theorem smp_ps (l : List (Int × Int)) : smp (.list (l.map dp)) = true := by
  show smpAll (l.map dp) = true
  induction l with
  | nil => rfl
  | cons p r ih =>
    show (smp (dp p) && smpAll (r.map dp)) = true
    rw [ih]
    rfl
def dRoom (c e : Int) (tops : List Int) : PyData := .tuple [.int c, .int e, .list (tops.map .int)]
theorem smp_ints (l : List Int) : smpAll (l.map .int) = true := by
  induction l with
  | nil => rfl
  | cons p r ih =>
    show (true && smpAll (r.map .int)) = true
    rw [ih]
    rfl
theorem smp_room : smp (dRoom c e tops) = true := by
  show (true && (true && (smpAll (tops.map .int) && true))) = true
  rw [smp_ints]
  rfl
theorem rep_room (R : Rm c e tops) : biSem .repr [rm c e tops] M = some (.rep (dRoom c e tops), M) := by
  have r1 := R.c0
  have r2 := R.cB
  have r3 := R.e0
  have r4 := R.eB
  have s1 : Sm c := sm_of (by omega) (by omega)
  have s2 : Sm e := sm_of (by omega) (by omega)
  have st : ∀ t ∈ tops, Sm t := fun t ht => by
    have := R.t1 t ht
    have := R.tB t ht
    exact sm_of (by omega) (by omega)
  have hd : datM 31 M (lz tops) = some (.list (tops.map .int)) := by
    show (allO ((tops.map Z.int).map (datM 30 M))).map PyData.list = _
    rw [dat_ints]
    rfl
  refine rep_ok ?_ ?_ ?_ ?_ (fun z => by cases z)
  · show (allO [datM 31 M (.int c), datM 31 M (.int e), datM 31 M (lz tops)]).map PyData.tuple = _
    rw [hd]
    rfl
  · show (shwD (.int c) && (shwD (.int e) && (shwDs (tops.map .int) && true))) = true
    rw [sm_shw s1, sm_shw s2, shwAll fun y hy => by
      obtain ⟨p, hp, rfl⟩ := List.mem_map.mp hy
      exact sm_shw (st p hp)]
    rfl
  · have q := szAll (ds := tops.map PyData.int) (n := 152) fun y hy => by
      obtain ⟨p, hp, rfl⟩ := List.mem_map.mp hy
      exact sm_sz (st p hp)
    rw [List.length_map] at q
    have a := sm_sz s1
    have b := sm_sz s2
    have hl : tops.length * (152 + 2) ≤ 100 * 154 := Nat.mul_le_mul_right _ R.len
    show szD (.int c) + 2 + (szD (.int e) + 2 + ((szDs (tops.map .int) + 4) + 2 + 0)) + 5 ≤ _
    omega
  · have q : PyData.depthAll (tops.map PyData.int) ≤ 0 := depAll fun y hy => by
      obtain ⟨p, _, rfl⟩ := List.mem_map.mp hy
      exact Nat.le_refl _
    show max 0 (max 0 (max (PyData.depthAll (tops.map .int) + 1) 0)) + 1 ≤ 64
    omega
/-! ### values that are tried -/
structure Tr (M : Mem) (v : Z) : Prop where
  val : Val M v
  rep : ∃ q, biSem .repr [v] M = some (.rep q, M) ∧ smp q = true ∧ ∀ p, q = dp p ↔ v = pr p
theorem item_int (i : Int) : Item M (.int i) := ⟨⟨.int, rfl⟩, _, rfl, rfl, Nat.zero_le _⟩
theorem item_non : Item M .non := ⟨⟨.non, rfl⟩, _, rfl, rfl, Nat.zero_le _⟩
theorem item_bl (b : Bool) : Item M (.bl b) := ⟨⟨.bool, rfl⟩, _, rfl, rfl, Nat.zero_le _⟩
theorem item_str : Item M (.str "0") := ⟨⟨.str, rfl⟩, _, rfl, by decide +kernel, Nat.zero_le _⟩
theorem item_lst : Item M (.lst [.int 0]) := ⟨⟨.lst, rfl⟩, .list [.int 0], rfl, rfl, by decide⟩
/-- a pair of anything that is shown -/
theorem tr_pair {x y : Z} {a b : PyData} (hx : Item M x) (hy : Item M y) (ha : datM 31 M x = some a) (hb : datM 31 M y = some b) (s1 : shwD a = true) (s2 : shwD b = true) (z1 : szD a ≤ 1000) (z2 : szD b ≤ 1000) (d1 : a.depth ≤ 8) (d2 : b.depth ≤ 8) (m1 : smp a = true) (m2 : smp b = true)
    (e : ∀ i j : Int, (a = .int i ∧ b = .int j) ↔ (x = .int i ∧ y = .int j)) : Tr M (.tup [x, y]) := by
  refine ⟨.tup _ (by simp) fun z hz => ?_, .tuple [a, b], rep_ok ?_ ?_ ?_ ?_ (fun z => by cases z), ?_, fun p => ?_⟩
  · simp only [List.mem_cons, List.not_mem_nil, or_false] at hz
    rcases hz with rfl | rfl
    · exact hx
    · exact hy
  · show (allO [datM 31 M x, datM 31 M y]).map PyData.tuple = _
    rw [ha, hb]
    rfl
  · show (shwD a && (shwD b && true)) = true
    rw [s1, s2]
    rfl
  · show szD a + 2 + (szD b + 2 + 0) + 5 ≤ _
    omega
  · show max a.depth (max b.depth 0) + 1 ≤ 64
    omega
  · show (smp a && (smp b && true)) = true
    rw [m1, m2]
    rfl
  · have q := e p.1 p.2
    constructor
    · intro h
      have h : PyData.tuple [a, b] = .tuple [.int p.1, .int p.2] := h
      injection h with h
      injection h with h1 h
      injection h with h2 h
      obtain ⟨e1, e2⟩ := q.mp ⟨h1, h2⟩
      rw [e1, e2]
      rfl
    · intro h
      have h : Z.tup [x, y] = .tup [.int p.1, .int p.2] := h
      injection h with h
      injection h with h1 h
      injection h with h2 h
      obtain ⟨e1, e2⟩ := q.mpr ⟨h1, h2⟩
      rw [e1, e2]
      rfl
theorem tr_ints {i j : Int} (hi : Sm i) (hj : Sm j) : Tr M (.tup [.int i, .int j]) :=
  tr_pair (item_int i) (item_int j) rfl rfl (sm_shw hi) (sm_shw hj) (Nat.le_trans (sm_sz hi) (by decide)) (Nat.le_trans (sm_sz hj) (by decide)) (Nat.zero_le _) (Nat.zero_le _) rfl rfl fun a b => by simp
theorem tr_other {v : Z} {q : PyData} {t : Ty} (ht : tyM M v = some t) (hn : t ≠ .tup) (hv : ∀ l, v ≠ .tup l) (hr : biSem .repr [v] M = some (.rep q, M)) (hs : smp q = true) (hq : ∀ l, q ≠ .tuple l) : Tr M v :=
  ⟨.no v t ht hn hv, q, hr, hs, fun p => ⟨fun h => (hq _ h).elim, fun h => (hv _ h).elim⟩⟩
theorem sm0 : Sm 0 := sm_of (by decide) (by decide +kernel)
theorem tr_list {i j : Int} (hi : Sm i) (hj : Sm j) : Tr M (.lst [.int i, .int j]) :=
  tr_other (t := .lst) rfl (by decide) (fun _ z => by cases z) (rep_ok (q := .list [.int i, .int j]) rfl
    (by show (shwD (.int i) && (shwD (.int j) && true)) = true; rw [sm_shw hi, sm_shw hj]; rfl)
    (by have := sm_sz hi; have := sm_sz hj; show szD (.int i) + 2 + (szD (.int j) + 2 + 0) + 4 ≤ _; omega) (by show max 0 (max 0 0) + 1 ≤ 64; decide) (fun z => by cases z)) rfl (fun _ z => by cases z)
def tried0 (many : Int) : List Z := [.non, .tup [], .lst [], .int 5, .dic0, .tup [.int 0], .tup [.int 0, .int many, .int 0], .lst [.int 0, .int many], .tup [.int many, .int 0], .tup [.int 0, .non], .tup [.str "0", .int many], .tup [.bl false, .int many], .tup [.int 0, .bl true], .tup [.lst [.int 0], .int many]]
theorem tr_tried0 (hm : Sm many) : ∀ v ∈ tried0 many, Tr M v := by
  have z0 := sm_sz sm0
  have zm := sm_sz hm
  have s0 := sm_shw sm0
  have sM := sm_shw hm
  intro v hv
  simp only [tried0, List.mem_cons, List.not_mem_nil, or_false] at hv
  rcases hv with rfl | rfl | rfl | rfl | rfl | rfl | rfl | rfl | rfl | rfl | rfl | rfl | rfl | rfl
  · exact tr_other (t := .non) rfl (by decide) (fun _ z => by cases z) (rep_ok (q := .none) rfl rfl (by decide) (by decide) (fun z => by cases z)) rfl (fun _ z => by cases z)
  · exact ⟨.tup _ (by decide) (fun z hz => by cases hz), .tuple [], rep_ok rfl rfl (by decide) (by decide) (fun z => by cases z), rfl, fun p => ⟨fun h => (by cases h), fun h => (by cases h)⟩⟩
  · exact tr_other (t := .lst) rfl (by decide) (fun _ z => by cases z) (rep_ok (q := .list []) rfl rfl (by decide) (by decide) (fun z => by cases z)) rfl (fun _ z => by cases z)
  · exact tr_other (t := .int) rfl (by decide) (fun _ z => by cases z) (rep_ok (q := .int 5) rfl (by decide +kernel) (by decide +kernel) (by decide) (fun z => by cases z)) rfl (fun _ z => by cases z)
  · exact tr_other (t := .dic) rfl (by decide) (fun _ z => by cases z) (q := .dict []) rfl rfl (fun _ z => by cases z)
  · refine ⟨.tup _ (by decide) (fun z hz => ?_), .tuple [.int 0], rep_ok rfl ?_ ?_ (by decide) (fun z => by cases z), rfl, fun p => ⟨fun h => (by simp [dp] at h), fun h => (by simp [pr] at h)⟩⟩
    · rw [List.mem_singleton] at hz
      subst hz
      exact item_int 0
    · show (shwD (.int 0) && true) = true
      rw [s0]
      rfl
    · show szD (.int 0) + 2 + 0 + 5 ≤ _
      omega
  · refine ⟨.tup _ (by simp) (fun z hz => ?_), .tuple [.int 0, .int many, .int 0], rep_ok rfl ?_ ?_ (by show max 0 (max 0 (max 0 0)) + 1 ≤ 64; decide) (fun z => by cases z), rfl, fun p => ⟨fun h => (by simp [dp] at h), fun h => (by simp [pr] at h)⟩⟩
    · simp only [List.mem_cons, List.not_mem_nil, or_false] at hz
      rcases hz with rfl | rfl | rfl <;> exact item_int _
    · show (shwD (.int 0) && (shwD (.int many) && (shwD (.int 0) && true))) = true
      rw [s0, sM]
      rfl
    · show szD (.int 0) + 2 + (szD (.int many) + 2 + (szD (.int 0) + 2 + 0)) + 5 ≤ _
      omega
  · exact tr_list sm0 hm
  · exact tr_ints hm sm0
  · exact tr_pair (a := .int 0) (b := .none) (item_int 0) item_non rfl rfl s0 rfl (by omega) (by decide) (by decide) (by decide) rfl rfl fun i j => by simp
  · exact tr_pair (a := .str "0") (b := .int many) item_str (item_int many) rfl rfl (by decide +kernel) sM (by decide +kernel) (by omega) (by decide) (by show 0 ≤ 8; decide) (by decide +kernel) rfl fun i j => by simp
  · exact tr_pair (a := .bool false) (b := .int many) (item_bl false) (item_int many) rfl rfl rfl sM (by decide) (by omega) (by decide) (by show 0 ≤ 8; decide) rfl rfl fun i j => by simp
  · exact tr_pair (a := .int 0) (b := .bool true) (item_int 0) (item_bl true) rfl rfl s0 rfl (by omega) (by decide) (by decide) (by decide) rfl rfl fun i j => by simp
  · exact tr_pair (a := .list [.int 0]) (b := .int many) item_lst (item_int many) rfl rfl (by show (shwD (.int 0) && true) = true; rw [s0]; rfl) sM (by show szD (.int 0) + 2 + 0 + 4 ≤ _; omega) (by omega) (by decide) (by show 0 ≤ 8; decide) rfl rfl fun i j => by simp
end K15
end
section
namespace K15
open PySem L2 ZM
variable {C : Calls} {M : Mem} {c e many : Int} {tops : List Int} {k : Str} {d : Nat}
/-! ### _law_right -/
/-- what its calls tell, whatever the memory -/
structure CR' (C : Calls) (k : Str) (c e : Int) (tops : List Int) (many : Int) (D : List (Int × Int)) : Prop where
  lb : ∀ M, C 12 [.str k, rm c e tops, .int many] M = .ok (lp D) M
  bm : ∀ M, C 13 [.str k, rm c e tops, .int many] M = .ok (.ref M.length) (M ++ [.lst (D.map pr)])
  b : ∀ M, C 8 [.str k, rm c e tops, .int many] M = .ok (lp D) M
  fb : ∀ M, C 9 [.str k, rm c e tops, .int many] M = .ok (fst0 D) M
  cp : ∀ M, C 14 [.str k, rm c e tops, .int many] M = .ok (.bl D.isEmpty) M
  ls : ∀ M, C 15 [lz tops, .int many] M = .ok (lp (nb (marks tops many))) M
  ib : ∀ M v b, Val M v → (b = true ↔ ∃ p ∈ D, v = pr p) → C 16 [.str k, rm c e tops, .int many, v] M = .ok (.bl b) M
theorem cr (L : Cl k c e tops many) : CR' (callZ G code (d + 6)) k c e tops many (due k c e tops many) :=
  ⟨fun M => lbarring (d := d + 4) L.hk L.R, fun M => barringM L, fun M => barring L, fun M => first_bar L, fun M => can_pass L, fun M => lstretches (d := d + 5) L.R.len, fun M v b hv hb => is_bar L hv hb⟩
theorem isi_ref {n : Nat} {l : List Z} (h : M[n]? = some (.lst l)) : biSem .isi [.ref n, .ty .lst] M = some (.bl true, M) := by
  have e : tyM M (.ref n) = some .lst := by
    unfold tyM
    simp only [h]
  show (match tyM M (.ref n) with | some a => if Ty.lst = Ty.non then none else some (Z.bl (subTy a .lst), M) | none => none) = _
  rw [e]
  rfl
/-- the frame before the loops -/
def fr (k : Str) (c e : Int) (tops : List Int) (many : Int) (D : List (Int × Int)) (n : Nat) (T : List Z) (lo hi v g r : Option Z) : Sl :=
  [some (.str k), some (rm c e tops), some (.int many), some (lp D), some (.rep (dRoom c e tops)), some (.ref n), some (fst0 D), some (.lst T), lo, hi, v, g, r, none]
theorem step1 {D : List (Int × Int)} {n : Nat} {T : List Z} {v g r : Option Z} {p : Int × Int} (hl : T.length ≤ 5000) : runs C G c6_0 (fr k c e tops many D n T (some (.int p.1)) (some (.int p.2)) v g r) M =
    .ok (.nx (fr k c e tops many D n (T ++ [.tup [.int p.1, .int p.2], .tup [.int (p.1 + 1), .int p.2], .tup [.int p.1, .int (p.2 - 1)], .tup [.int p.1, .int (p.2 + 1)], .lst [.int p.1, .int p.2], .tup [.int p.2, .int p.1]]) (some (.int p.1)) (some (.int p.2)) v g r)) M := by
  have e2 : 2 ≤ sizeLine := by decide
  have e6 : 6 ≤ sizeLine := by decide
  have q : sAdd false (.lst T) (.lst [.tup [.int p.1, .int p.2], .tup [.int (p.1 + 1), .int p.2], .tup [.int p.1, .int (p.2 - 1)], .tup [.int p.1, .int (p.2 + 1)], .lst [.int p.1, .int p.2], .tup [.int p.2, .int p.1]]) M = some (.lst (T ++ [.tup [.int p.1, .int p.2], .tup [.int (p.1 + 1), .int p.2], .tup [.int p.1, .int (p.2 - 1)], .tup [.int p.1, .int (p.2 + 1)], .lst [.int p.1, .int p.2], .tup [.int p.2, .int p.1]]), M) := by
    unfold sAdd
    simp only [ownL, newL, List.length_cons, List.length_nil]
    rw [if_pos (Nat.le_trans (by omega : T.length + 6 ≤ 10000) (by decide))]
    rfl
  have add_ii : ∀ i j : Int, ∀ M : Mem, sAdd false (.int i) (.int j) M = some (.int (i + j), M) := fun _ _ _ => id rfl
  have sub_ii : ∀ i j : Int, ∀ M : Mem, sSub (.int i) (.int j) M = some (.int (i - j), M) := fun _ _ _ => id rfl
  unfold c6_0 fr
  simp [q, e2, e6, add_ii, sub_ii, ss_cons, ss_nil, s_asg, e_op, e_lst, e_tup, es_cons, es_nil, e_var, e_c, bind_ok, O2.sem, ofO_some, newL, a_name, then_nx]
theorem comp61 {D : List (Int × Int)} {n : Nat} {T : List Z} {lo hi v g r : Option Z} (hD : ∀ p ∈ D, Sm p.1 ∧ Sm p.2) (hl : D.length ≤ 200) : den C G c6_2 (fr k c e tops many D n T lo hi v g r) M = .ok (.lst ((D.map dp).map .rep)) M := by
  unfold c6_2
  rw [comp_pure (zs := [lp D]) (l := D.map pr) (fun _ => true) (fun z => match z with | .tup [.int a, .int b] => .rep (dp (a, b)) | z => z) (by simp [fr, es_cons, es_nil, e_var, bind_ok]) rfl ?_ (by rw [List.length_map]; exact line1000 (by omega))]
  · rw [List.filter_eq_self.mpr (fun _ _ => rfl), List.map_map, List.map_map]
    rfl
  · intro z hz
    obtain ⟨p, hp, rfl⟩ := List.mem_map.mp hz
    refine ⟨[some (.str k), some (rm c e tops), some (.int many), some (lp D), some (.rep (dRoom c e tops)), some (.ref n), some (fst0 D), some (.lst T), lo, hi, v, g, r, some (pr p)], rfl, t_nil, fun _ => ?_⟩
    have q : biSem .repr [pr p] M = some (.rep (dp p), M) := rep_ok (dat_pr p) (dp_shw (hD p hp).1 (hD p hp).2) (Nat.le_trans (dp_sz (hD p hp).1 (hD p hp).2) (by decide)) (by show max 0 (max 0 0) + 1 ≤ 64; decide) (fun z => by cases z)
    simp only [pr] at q
    simp [q, e_bi, es_cons, es_nil, e_var, bind_ok, ofO_some, pr]
theorem rep_bl {b : Bool} : biSem .repr [.bl b] M = some (.rep (.bool b), M) := rep_ok rfl rfl (by cases b <;> decide) (by cases b <;> decide) (fun z => by cases z)
theorem step2 {D : List (Int × Int)} (R : CR' C k c e tops many D) (hD : ∀ p ∈ D, Sm p.1 ∧ Sm p.2) (hl : D.length ≤ 200) {n : Nat} {T : List Z} {lo hi g r : Option Z} {x : Z} (hx : Tr M x) :
    ∃ g' r', runs C G c6_3 (fr k c e tops many D n T lo hi (some x) g r) M = .ok (.nx (fr k c e tops many D n T lo hi (some x) g' r')) M := by
  obtain ⟨q, h1, h2, h3⟩ := hx.rep
  have dec : ∃ b : Bool, b = true ↔ ∃ p ∈ D, x = pr p := by
    by_cases h : ∃ p ∈ D, x = pr p
    · exact ⟨true, fun _ => h, fun _ => rfl⟩
    · exact ⟨false, ⟨fun z => (by cases z), fun z => (h z).elim⟩⟩
  obtain ⟨b, hb⟩ := dec
  have i := R.ib M x b hx.val hb
  have cm := comp61 (C := C) (M := M) (k := k) (c := c) (e := e) (tops := tops) (many := many) (D := D) (n := n) (T := T) (lo := lo) (hi := hi) (v := some x) (g := g) (r := r) hD hl
  have inr : sIn false (.rep q) (.lst ((D.map dp).map .rep)) M = some (.bl b, M) := by
    rw [in_rep h2 (fun y hy => by
      obtain ⟨p, _, rfl⟩ := List.mem_map.mp hy
      exact smp_dp p) (b := b) (hb.trans ⟨fun ⟨p, hp, e⟩ => List.mem_map.mpr ⟨p, hp, ((h3 p).mpr e).symm⟩, fun h => by
        obtain ⟨p, hp, e⟩ := List.mem_map.mp h
        exact ⟨p, hp, (h3 p).mp e.symm⟩⟩), Bool.false_xor]
  have s1 := eq_same (M := M) (n := true) (d := .bool b) rfl
  have s2 := eq_same (M := M) (n := true) h2
  simp only [Bool.not_true] at s1 s2
  have rb := rep_bl (M := M) (b := b)
  refine ⟨some (.rep q), some (.bl b), ?_⟩
  unfold c6_3 fr at *
  simp [h1, cm, inr, i, rb, s1, s2, ss_cons, ss_nil, s_par, s_ife, e_bi, e_cmp, e_call, e_or, es_cons, es_nil, e_var, bind_ok, ofO_some, C2.sem, a_name, as_cons, as_nil, then_nx, tst_bl, -List.map_map]
theorem fr_tgt {D : List (Int × Int)} {n : Nat} {T : List Z} {lo hi v g r : Option Z} {p : Int × Int} : asg (.tup [.name 8, .name 9]) (pr p) (fr k c e tops many D n T lo hi v g r) = some (fr k c e tops many D n T (some (.int p.1)) (some (.int p.2)) v g r) := id rfl
theorem fr_val {D : List (Int × Int)} {n : Nat} {T : List Z} {lo hi v g r : Option Z} {x : Z} : asg (.name 10) x (fr k c e tops many D n T lo hi v g r) = some (fr k c e tops many D n T lo hi (some x) g r) := id rfl
def InR (many : Int) (p : Int × Int) : Prop := (0 ≤ p.1 ∧ p.1 ≤ many) ∧ (0 ≤ p.2 ∧ p.2 ≤ many)
theorem tr_six (hm : many ≤ 2 ^ 119) {p : Int × Int} (h : InR many p) : ∀ v ∈ [Z.tup [.int p.1, .int p.2], .tup [.int (p.1 + 1), .int p.2], .tup [.int p.1, .int (p.2 - 1)], .tup [.int p.1, .int (p.2 + 1)], .lst [.int p.1, .int p.2], .tup [.int p.2, .int p.1]], Tr M v := by
  obtain ⟨⟨a1, a2⟩, a3, a4⟩ := h
  have s1 : Sm p.1 := sm_of (by omega) (by omega)
  have s2 : Sm p.2 := sm_of (by omega) (by omega)
  have s3 : Sm (p.1 + 1) := sm_of (by omega) (by omega)
  have s4 : Sm (p.2 - 1) := sm_of (by omega) (by omega)
  have s5 : Sm (p.2 + 1) := sm_of (by omega) (by omega)
  intro v hv
  simp only [List.mem_cons, List.not_mem_nil, or_false] at hv
  rcases hv with rfl | rfl | rfl | rfl | rfl | rfl
  · exact tr_ints s1 s2
  · exact tr_ints s3 s2
  · exact tr_ints s1 s4
  · exact tr_ints s1 s5
  · exact tr_list s1 s2
  · exact tr_ints s2 s1
theorem add_lp {a b : List (Int × Int)} (h : a.length + b.length ≤ 10000) : sAdd false (lp a) (lp b) M = some (lp (a ++ b), M) := by
  unfold sAdd lp
  simp only [ownL, newL, List.length_map]
  rw [if_pos (Nat.le_trans h (by decide)), List.map_append]
  rfl
theorem loop1 {D : List (Int × Int)} (R : CR' C k c e tops many D) (hl : tops.length ≤ 100) (hm : many ≤ 2 ^ 119) (hD : ∀ p ∈ nb (marks tops many) ++ D, InR many p) (hd : D.length ≤ 200) {n : Nat} {T : List Z} (hT : ∀ v ∈ T, Tr M v) (tl : T.length ≤ 20) {v g r : Option Z} :
    ∃ T' lo hi, run C G c6_1 (fr k c e tops many D n T none none v g r) M = .ok (.nx (fr k c e tops many D n T' lo hi v g r)) M ∧ ∀ v ∈ T', Tr M v := by
  have hn := nbm_len (many := many) hl
  have src : dens C G [.op (.add false) (.call 28 15 [.ix (.var 1) (.c (.int 2)), .var 2]) (.var 3)] (fr k c e tops many D n T none none v g r) M = .ok [lp (nb (marks tops many) ++ D)] M := by
    have q := R.ls M
    have q2 := add_lp (M := M) (a := nb (marks tops many)) (b := D) (by omega)
    simp [fr, q, q2, ix2, es_cons, es_nil, e_op, e_call, e_ix, e_var, e_c, bind_ok, ofO_some, O2.sem]
  obtain ⟨η', M', h1, T', lo, hi, h2, h3, h4, h5⟩ := for_all (tg := .tup [.name 8, .name 9]) (b := runs C G c6_0) (M := M) (η := fr k c e tops many D n T none none v g r)
    (fun i η M' => ∃ T' lo hi, M' = M ∧ η = fr k c e tops many D n T' lo hi v g r ∧ (∀ v ∈ T', Tr M v) ∧ T'.length ≤ 20 + 6 * i) ((nb (marks tops many) ++ D).map pr)
    (fun i z η M' hz ⟨T', lo, hi, e1, e2, e3, e4⟩ => by
      subst e1 e2
      rw [List.getElem?_map] at hz
      obtain ⟨p, hp, rfl⟩ := Option.map_eq_some_iff.mp hz
      have hi' : i < (nb (marks tops many) ++ D).length := (List.getElem?_eq_some_iff.mp hp).1
      rw [List.length_append] at hi'
      refine ⟨_, fr_tgt, _, _, .inl (step1 (by omega)), _, _, _, rfl, rfl, fun v hv => ?_, ?_⟩
      · rcases List.mem_append.mp hv with h | h
        · exact e3 v h
        · exact tr_six hm (hD p (List.mem_of_getElem? hp)) v h
      · rw [List.length_append]
        simp only [List.length_cons, List.length_nil]
        omega) ⟨T, none, none, rfl, rfl, hT, by omega⟩
  subst h2 h3
  refine ⟨T', lo, hi, ?_, h4⟩
  unfold c6_1
  rw [s_for, src, bind_ok]
  exact h1
theorem loop2 {D : List (Int × Int)} (R : CR' C k c e tops many D) (hD : ∀ p ∈ D, Sm p.1 ∧ Sm p.2) (hl : D.length ≤ 200) {n : Nat} {T : List Z} (hT : ∀ v ∈ T, Tr M v) {lo hi : Option Z} :
    ∃ v g r, run C G c6_4 (fr k c e tops many D n T lo hi none none none) M = .ok (.nx (fr k c e tops many D n T lo hi v g r)) M := by
  have src : dens C G [.var 7] (fr k c e tops many D n T lo hi none none none) M = .ok [.lst T] M := by
    simp [fr, es_cons, es_nil, e_var, bind_ok]
  obtain ⟨η', M', h1, v, g, r, h2, h3⟩ := for_all (tg := .name 10) (b := runs C G c6_3) (M := M) (η := fr k c e tops many D n T lo hi none none none)
    (fun i η M' => ∃ v g r, M' = M ∧ η = fr k c e tops many D n T lo hi v g r) T
    (fun i z η M' hz ⟨v, g, r, e1, e2⟩ => by
      subst e1 e2
      obtain ⟨g', r', q⟩ := step2 (C := C) (n := n) (T := T) (lo := lo) (hi := hi) (g := g) (r := r) R hD hl (hT z (List.mem_of_getElem? hz))
      exact ⟨_, fr_val, _, _, .inl q, _, _, _, rfl, rfl⟩) ⟨none, none, none, rfl, rfl⟩
  subst h2 h3
  refine ⟨v, g, r, ?_⟩
  unfold c6_4
  rw [s_for, src, bind_ok]
  exact h1
end K15
end
section
namespace K15
open PySem L2 ZM
variable {C : Calls} {M : Mem} {c e many : Int} {tops : List Int} {k : Str} {d : Nat}
def dF : List (Int × Int) → PyData
  | [] => .none
  | p :: _ => dp p
theorem smp_dF (D : List (Int × Int)) : smp (dF D) = true := by
  cases D <;> rfl
theorem rep_fst {D : List (Int × Int)} (hD : ∀ p ∈ D, Sm p.1 ∧ Sm p.2) : biSem .repr [fst0 D] M = some (.rep (dF D), M) := by
  cases D with
  | nil => exact rep_ok rfl rfl (by decide) (by decide) (fun z => by cases z)
  | cons p r =>
    have h := hD p List.mem_cons_self
    exact rep_ok (dat_pr p) (dp_shw h.1 h.2) (Nat.le_trans (dp_sz h.1 h.2) (by decide)) (by show max 0 (max 0 0) + 1 ≤ 64; decide) (fun z => by cases z)
theorem ix_last {D : List (Int × Int)} (h : D ≠ []) : ∃ p ∈ D, sIx (lp D) (.int (-1)) M = some (pr p, M) := by
  have hl : 0 < D.length := List.length_pos_iff.mpr h
  refine ⟨D[D.length - 1], List.getElem_mem _, ?_⟩
  have e : (-1 + (D.length : Int)).toNat = D.length - 1 := by omega
  simp only [lp, sIx, itsL, atI, ixN, List.length_map]
  rw [if_neg (by decide), if_pos (by omega), e]
  show (((D.map pr)[D.length - 1]?).map fun z => (z, M)) = _
  rw [List.getElem?_map, List.getElem?_eq_getElem (by omega)]
  rfl
theorem val_pr (p : Int × Int) : Val M (pr p) := .tup _ (by simp) fun z hz => by
  simp only [List.mem_cons, List.not_mem_nil, or_false] at hz
  rcases hz with rfl | rfl <;> exact item_int _
theorem lright (L : Cl k c e tops many) (hm : many ≤ 2 ^ 119) : ∃ l, callZ G code (d + 7) 6 [.str k, rm c e tops, .int many] M = .ok (.bl true) ((M ++ [MO.lst l]).set M.length (MO.lst (l ++ [Z.non]))) := by
  rw [x_call (c := c6) rfl]
  generalize hC : callZ G code (d + 6) = C
  have R : CR' C k c e tops many (due k c e tops many) := by rw [← hC]; exact cr L
  have hn := nbm_len (many := many) L.R.len
  have inD : ∀ p ∈ nb (marks tops many) ++ due k c e tops many, InR many p := fun p hp => by
    rcases List.mem_append.mp hp with h | h
    · have h2 := List.of_mem_zip (a := p.1) (b := p.2) h
      exact ⟨marks_in' L.R L.hm _ h2.1, marks_in' L.R L.hm _ (List.mem_of_mem_tail h2.2)⟩
    · exact due_in L.R L.hm h
  have hl : (due k c e tops many).length ≤ 200 := Nat.le_trans (List.length_filter_le _ _) hn
  generalize due k c e tops many = D at R inD hl
  have hD : ∀ p ∈ D, Sm p.1 ∧ Sm p.2 := fun p hp => by
    obtain ⟨⟨a1, a2⟩, a3, a4⟩ := inD p (List.mem_append_right _ hp)
    exact ⟨sm_of (by omega) (by omega), sm_of (by omega) (by omega)⟩
  have hMany := L.hm
  have sM : Sm many := sm_of (by omega) (by omega)
  refine ⟨D.map pr, ?_⟩
  have n1 : (M ++ [MO.lst (D.map pr)])[M.length]? = some (.lst (D.map pr)) := by simp
  have rr : ∀ M, biSem .repr [rm c e tops] M = some (.rep (dRoom c e tops), M) := fun M => rep_room L.R
  have r2 : ∀ M, biSem .repr [lp D] M = some (.rep (.list (D.map dp)), M) := fun M => rep_ps (isPs_lp D) (fun z => by cases z) hl hD
  have r3 : ∀ M, biSem .repr [fst0 D] M = some (.rep (dF D), M) := fun M => rep_fst hD
  have q1 : ∀ M, sEq true (.rep (.list (D.map dp))) (.rep (.list (D.map dp))) M = some (.bl false, M) := fun M => eq_same (smp_ps D)
  have q2 : ∀ M, sEq true (.rep (dF D)) (.rep (dF D)) M = some (.bl false, M) := fun M => eq_same (smp_dF D)
  have q3 : ∀ M, sEq false (.rep (dRoom c e tops)) (.rep (dRoom c e tops)) M = some (.bl true, M) := fun M => eq_same smp_room
  have q4 : ∀ M, sEq true (lp D) (.lst []) M = some (.bl (!D.isEmpty), M) := fun M => by
    rw [eq_nil (isPs_lp D), Bool.true_xor]
  have q5 : ∀ M, sEq false (lp D) (.lst []) M = some (.bl D.isEmpty, M) := fun M => by
    rw [eq_nil (isPs_lp D), Bool.false_xor]
  have q6 : ∀ M, sEq false (lp D) (lp D) M = some (.bl true, M) := fun M => eq_ps (isPs_lp D) (isPs_lp D) (b := true) ⟨fun _ => rfl, fun _ => rfl⟩
  have i1 := isi_ref n1
  have r1 : biSem .repr [.ref M.length] (M ++ [MO.lst (D.map pr)]) = some (.rep (.list (D.map dp)), M ++ [MO.lst (D.map pr)]) := rep_ps (isPs_ref n1) (fun z => by cases z) hl hD
  have R1 := R.lb
  have R2 := R.bm
  have R3 := R.b
  have R4 := R.fb
  have R5 := R.cp
  have e14 : 14 ≤ sizeLine := by decide
  have e3 : 3 ≤ sizeLine := by decide
  have e2 : 2 ≤ sizeLine := by decide
  have e1 : 1 ≤ sizeLine := by decide
  have st1 : endZ (runs C G c6.b (startZ c6.N.length [.str k, rm c e tops, .int many]) M) = endZ ((run C G c6_1 (fr k c e tops many D M.length (tried0 many) none none none none none) (M ++ [MO.lst (D.map pr)])).bind (thenS C G (c6.b.drop 8))) := by
    have hf : den C G (.ite (.cmp .ne (.var 3) (.lst false [])) (.ix (.var 3) (.c (.int 0))) (.c .non)) [some (.str k), some (rm c e tops), some (.int many), some (lp D), some (.rep (dRoom c e tops)), some (.ref M.length), none, none, none, none, none, none, none, none] (M ++ [MO.lst (D.map pr)]) = .ok (fst0 D) (M ++ [MO.lst (D.map pr)]) := by
      cases D with
      | nil =>
        have q4 := q4 (M ++ [MO.lst []])
        simp only [List.isEmpty_nil, Bool.not_true] at q4
        simp [q4, fst0, ss_cons, ss_nil, s_ret, s_retN, s_ife, s_ex, s_asg, s_par, s_pass, e_and, e_or, e_ite, e_c, e_bi, e_call, e_callK, e_cmp, e_op, e_ix, e_neg, e_tup, e_lst, e_dic0, e_frz, es_cons, es_nil, e_gv, bind_ok, e_not, start_eq, e_var, then_rt, then_nx, end_rt, end_nx, a_name, a_tup, as_nil, as_cons, ofO_some, tst_bl, tst_tup, notR_ok, O2.sem, C2.sem, newL, is_nn, is_in, is_bb, is_tn, eq_ii, eq_ss, gz7, gz8, gz9, gz10, gz11, gz12]
      | cons p r =>
        have q4 := q4 (M ++ [MO.lst ((p :: r).map pr)])
        have j0 : sIx (lp (p :: r)) (.int 0) (M ++ [MO.lst ((p :: r).map pr)]) = some (pr p, M ++ [MO.lst ((p :: r).map pr)]) := ix_lp0
        simp only [List.isEmpty_cons, Bool.not_false] at q4
        simp [q4, j0, fst0, ss_cons, ss_nil, s_ret, s_retN, s_ife, s_ex, s_asg, s_par, s_pass, e_and, e_or, e_ite, e_c, e_bi, e_call, e_callK, e_cmp, e_op, e_ix, e_neg, e_tup, e_lst, e_dic0, e_frz, es_cons, es_nil, e_gv, bind_ok, e_not, start_eq, e_var, then_rt, then_nx, end_rt, end_nx, a_name, a_tup, as_nil, as_cons, ofO_some, tst_bl, tst_tup, notR_ok, O2.sem, C2.sem, newL, is_nn, is_in, is_bb, is_tn, eq_ii, eq_ss, gz7, gz8, gz9, gz10, gz11, gz12, -List.map_cons]
    unfold fr tried0
    cases hE : D.isEmpty <;> simp only [hE, Bool.not_true, Bool.not_false] at q4 q5 R5 <;> simp [c6, hf, rr, r1, r2, r3, q1, q2, q4, q5, i1, R1, R2, R3, R4, R5, e14, e3, e2, e1, permZ, ss_cons, ss_nil, s_ret, s_retN, s_ife, s_ex, s_asg, s_par, s_pass, e_and, e_or, e_ite, e_c, e_bi, e_call, e_callK, e_cmp, e_op, e_ix, e_neg, e_tup, e_lst, e_dic0, e_frz, es_cons, es_nil, e_gv, bind_ok, e_not, start_eq, e_var, then_rt, then_nx, end_rt, end_nx, a_name, a_tup, as_nil, as_cons, ofO_some, tst_bl, tst_tup, notR_ok, O2.sem, C2.sem, newL, is_nn, is_in, is_bb, is_tn, eq_ii, eq_ss, gz7, gz8, gz9, gz10, gz11, gz12, -e_ite]
  obtain ⟨T', lo, hi, A1, A2⟩ := loop1 (C := C) (M := M ++ [MO.lst (D.map pr)]) (n := M.length) (v := none) (g := none) (r := none) R L.R.len hm inD hl (tr_tried0 sM) (by simp [tried0])
  obtain ⟨v, g, r, B⟩ := loop2 (C := C) (M := M ++ [MO.lst (D.map pr)]) (n := M.length) (lo := lo) (hi := hi) R hD hl A2
  have st2 : runs C G (c6.b.drop 8) (fr k c e tops many D M.length T' lo hi none none none) (M ++ [MO.lst (D.map pr)]) = (run C G c6_4 (fr k c e tops many D M.length T' lo hi none none none) (M ++ [MO.lst (D.map pr)])).bind (thenS C G (c6.b.drop 9)) := ss_cons
  rw [st1, A1, bind_ok, then_nx, st2, B, bind_ok, then_nx]
  have rc : rcv .append (.ref M.length) (M ++ [MO.lst (D.map pr)]) = true := by
    unfold rcv
    simp only [n1]
  have ap : meSem .append (.ref M.length) [.non] (M ++ [MO.lst (D.map pr)]) = some (.non, (M ++ [MO.lst (D.map pr)]).set M.length (MO.lst (D.map pr ++ [.non]))) := by
    show sAppend M.length [.non] (M ++ [MO.lst (D.map pr)]) = _
    unfold sAppend
    simp only [n1]
    rw [if_pos (by rw [List.length_map]; exact Nat.lt_of_le_of_lt hl (by decide))]
  have ng : sNeg (.int 1) (M ++ [MO.lst (D.map pr)]) = some (.int (-1), M ++ [MO.lst (D.map pr)]) := id rfl
  generalize hM2 : (M ++ [MO.lst (D.map pr)]).set M.length (MO.lst (D.map pr ++ [.non])) = M2 at ap ⊢
  unfold fr
  cases hE : D.isEmpty with
  | true =>
    simp only [hE, Bool.not_true] at q4
    simp [c6, rr, q3, q4, q6, R3, rc, ap, e1, permZ, e_me, ss_cons, ss_nil, s_ret, s_retN, s_ife, s_ex, s_asg, s_par, s_pass, e_and, e_or, e_ite, e_c, e_bi, e_call, e_callK, e_cmp, e_op, e_ix, e_neg, e_tup, e_lst, e_dic0, e_frz, es_cons, es_nil, e_gv, bind_ok, e_not, start_eq, e_var, then_rt, then_nx, end_rt, end_nx, a_name, a_tup, as_nil, as_cons, ofO_some, tst_bl, tst_tup, notR_ok, O2.sem, C2.sem, newL, is_nn, is_in, is_bb, is_tn, eq_ii, eq_ss, gz7, gz8, gz9, gz10, gz11, gz12]
  | false =>
    simp only [hE, Bool.not_false] at q4
    obtain ⟨p, hp, hx⟩ := ix_last (M := M ++ [MO.lst (D.map pr)]) (D := D) (by rintro rfl; cases hE)
    have ib := R.ib (M ++ [MO.lst (D.map pr)]) (pr p) true (val_pr p) ⟨fun _ => ⟨p, hp, rfl⟩, fun _ => rfl⟩
    simp [c6, rr, q3, q4, q6, R3, rc, ap, hx, ib, ng, e1, permZ, e_me, ss_cons, ss_nil, s_ret, s_retN, s_ife, s_ex, s_asg, s_par, s_pass, e_and, e_or, e_ite, e_c, e_bi, e_call, e_callK, e_cmp, e_op, e_ix, e_neg, e_tup, e_lst, e_dic0, e_frz, es_cons, es_nil, e_gv, bind_ok, e_not, start_eq, e_var, then_rt, then_nx, end_rt, end_nx, a_name, a_tup, as_nil, as_cons, ofO_some, tst_bl, tst_tup, notR_ok, O2.sem, C2.sem, newL, is_nn, is_in, is_bb, is_tn, eq_ii, eq_ss, gz7, gz8, gz9, gz10, gz11, gz12]
end K15
end
section
namespace K15
open PySem L2 ZM
variable {C : Calls} {M : Mem} {d n : Nat}
/-! ### draws -/
theorem smN {i : Int} (h0 : -(2 ^ 2500) < i) (h1 : i < 2 ^ 2500) : smal i = true := by
  refine decide_eq_true ?_
  have e : (2 : Nat) ^ 2500 ≤ lim := by decide +kernel
  have e2 : ((2 ^ 2500 : Nat) : Int) = 2 ^ 2500 := by norm_cast
  omega
theorem sm64 {i : Int} (h0 : 0 ≤ i) (h1 : i < 2 ^ 200) : smal i = true := smN (by have : (0 : Int) < 2 ^ 2500 := Int.pow_pos (by decide); omega) (Int.lt_trans h1 (by decide +kernel))
theorem mod_ok {i j : Int} (h : 0 < j) : sMod (.int i) (.int j) M = some (.int (i % j), M) := by
  unfold sMod
  simp only [h, if_true]
theorem mulB {m : Bool} {i j : Int} (h0 : 0 ≤ i) (h1 : i < 2 ^ 200) (h2 : 0 ≤ j) (h3 : j < 2 ^ 200) : sMul m (.int i) (.int j) M = some (.int (i * j), M) := mul_ok (sm64 h0 h1) (sm64 h2 h3)
theorem mul_le {a b A B : Int} (h0 : 0 ≤ a) (h1 : a ≤ A) (h2 : 0 ≤ b) (h3 : b ≤ B) : 0 ≤ a * b ∧ a * b ≤ A * B := ⟨Int.mul_nonneg h0 h2, Int.mul_le_mul h1 h3 h2 (Int.le_trans h0 h1)⟩
theorem hash_ok {s i : Int} (s0 : 0 ≤ s) (s1 : s < 2 ^ 31) (i0 : 0 ≤ i) (i1 : i < 2 ^ 40) : ∃ h, callZ G code (d + 1) 17 [.int s, .int i] M = .ok (.int h) M ∧ 0 ≤ h ∧ h < 2147483647 := by
  rw [x_call (c := c17) rfl]
  generalize hC : callZ G code d = C
  have q1 := mulB (M := M) (m := false) (i := s) (j := 1140671) s0 (by omega) (by decide) (by decide +kernel)
  have q2 := mulB (M := M) (m := false) (i := 27644437) (j := i) (by decide) (by decide +kernel) i0 (by omega)
  have b3 := mul_le (a := 27644437) (A := 27644437) (b := i) (B := 2 ^ 40) (by decide) (Int.le_refl _) i0 (by omega)
  have q3 := mulB (M := M) (m := false) (i := 27644437 * i) (j := i) (by omega) (by omega) i0 (by omega)
  have q4 := mulB (M := M) (m := false) (i := 131) (j := i) (by decide) (by decide +kernel) i0 (by omega)
  have q5 := mod_ok (M := M) (i := s * 1140671 + 27644437 * i * i + 131 * i + 19) (j := 2147483629) (by decide)
  have l1 := Int.emod_nonneg (s * 1140671 + 27644437 * i * i + 131 * i + 19) (show (2147483629 : Int) ≠ 0 by decide)
  have l2 := Int.emod_lt_of_pos (s * 1140671 + 27644437 * i * i + 131 * i + 19) (show (0 : Int) < 2147483629 by decide)
  generalize (s * 1140671 + 27644437 * i * i + 131 * i + 19) % 2147483629 = m1 at q5 l1 l2
  have q6 := mulB (M := M) (m := false) (i := m1) (j := m1) l1 (by omega) l1 (by omega)
  have q7 := mulB (M := M) (m := false) (i := 62089) (j := i) (by decide) (by decide +kernel) i0 (by omega)
  have q8 := mod_ok (M := M) (i := m1 * m1 + 62089 * i + 32416187) (j := 2147483587) (by decide)
  have l3 := Int.emod_nonneg (m1 * m1 + 62089 * i + 32416187) (show (2147483587 : Int) ≠ 0 by decide)
  have l4 := Int.emod_lt_of_pos (m1 * m1 + 62089 * i + 32416187) (show (0 : Int) < 2147483587 by decide)
  generalize (m1 * m1 + 62089 * i + 32416187) % 2147483587 = m2 at q8 l3 l4
  have q9 := mulB (M := M) (m := false) (i := m2) (j := 48271) l3 (by omega) (by decide) (by decide +kernel)
  have q10 := mod_ok (M := M) (i := m2 * 48271) (j := 2147483647) (by decide)
  refine ⟨m2 * 48271 % 2147483647, ?_, Int.emod_nonneg _ (by decide), Int.emod_lt_of_pos _ (by decide)⟩
  rw [c17]
  simp [q1, q2, q3, q4, q5, q6, q7, q8, q9, q10, ss_cons, ss_nil, s_ret, s_retN, s_ife, s_ex, s_asg, s_par, s_pass, e_and, e_or, e_ite, e_c, e_bi, e_call, e_callK, e_cmp, e_op, e_ix, e_neg, e_tup, e_lst, e_dic0, e_frz, es_cons, es_nil, e_gv, bind_ok, e_not, start_eq, e_var, then_rt, then_nx, end_rt, end_nx, a_name, a_tup, as_nil, as_cons, biSem, ofO_some, tst_bl, tst_tup, notR_ok, O2.sem, C2.sem, sAdd, sSub, sOrd, subTy, newL, is_nn, is_in, is_bb, is_tn, eq_ii, eq_ss, gz7, gz8, gz9, gz10, gz11, gz12]
/-- a generator stands at n -/
def GA (M : Mem) (n B : Nat) : Prop := ∃ a b c : Int, M[n]? = some (.lst [.int a, .int b, .int c]) ∧ 0 ≤ a ∧ 0 ≤ b ∧ b < 2 ^ 31 ∧ 0 ≤ c ∧ c ≤ B
/-- the generator is told again, all else stays -/
structure Drawn (M M' : Mem) (n B : Nat) : Prop where
  ga : GA M' n B
  len : M'.length = M.length
  keep : ∀ m, m ≠ n → M'[m]? = M[m]?
theorem ixr {a b c : Int} (h : M[n]? = some (.lst [.int a, .int b, .int c])) : sIx (.ref n) (.int 0) M = some (.int a, M) ∧ sIx (.ref n) (.int 1) M = some (.int b, M) ∧ sIx (.ref n) (.int 2) M = some (.int c, M) := by
  refine ⟨?_, ?_, ?_⟩ <;> (unfold sIx; simp only [itsL, h]; rfl)
theorem get_set {o : MO} (h : n < M.length) : (M.set n o)[n]? = some o := List.getElem?_set_self h
theorem lt_of {a : MO} (h : M[n]? = some a) : n < M.length := (List.getElem?_eq_some_iff.mp h).1
theorem turn7 {a b c dr lim : Int} {t : Option Z} (hC : ∀ M s i, 0 ≤ s → s < 2 ^ 31 → 0 ≤ i → i < 2 ^ 40 → ∃ h, C 17 [.int s, .int i] M = .ok (.int h) M ∧ 0 ≤ h ∧ h < 2147483647) (h : M[n]? = some (.lst [.int a, .int b, .int c])) (hb : 0 ≤ b ∧ b < 2 ^ 31) (hc : 0 ≤ c ∧ c < 2 ^ 39) (hd : 0 ≤ dr ∧ dr < 2 ^ 190) :
    ∃ h', 0 ≤ h' ∧ h' < 2147483647 ∧ runs C G c7_0 [some (.ref n), some (.int lim), some (.int dr), t] M = .ok (.nx [some (.ref n), some (.int lim), some (.int (dr * 2147483587 + h')), t]) (M.set n (.lst [.int a, .int b, .int (c + 1)])) := by
  obtain ⟨i0, i1, i2⟩ := ixr h
  have hn := lt_of h
  have g2 : (M.set n (MO.lst [.int a, .int b, .int (c + 1)]))[n]? = some (.lst [.int a, .int b, .int (c + 1)]) := get_set hn
  obtain ⟨j0, j1, j2⟩ := ixr g2
  obtain ⟨h', e, h1, h2⟩ := hC (M.set n (MO.lst [.int a, .int b, .int (c + 1)])) b (c + 1) hb.1 hb.2 (by omega) (by omega)
  have q := mulB (M := M.set n (MO.lst [.int a, .int b, .int (c + 1)])) (m := false) (i := dr) (j := 2147483587) hd.1 (by omega) (by decide) (by decide +kernel)
  have ix : ixN 3 2 = some 2 := rfl
  refine ⟨h', h1, h2, ?_⟩
  generalize hM' : M.set n (MO.lst [.int a, .int b, .int (c + 1)]) = M' at *
  unfold c7_0
  have st : run C G (.setIx (.var 0) (.c (.int 2)) (.op (.add false) (.ix (.var 0) (.c (.int 2))) (.c (.int 1)))) [some (.ref n), some (.int lim), some (.int dr), t] M = .ok (.nx [some (.ref n), some (.int lim), some (.int dr), t]) M' := by
    rw [s_set]
    simp [i2, h, ix, ss_cons, ss_nil, s_ret, s_retN, s_ife, s_ex, s_asg, s_par, s_pass, e_and, e_or, e_ite, e_c, e_bi, e_call, e_callK, e_cmp, e_op, e_ix, e_neg, e_tup, e_lst, e_dic0, e_frz, es_cons, es_nil, e_gv, bind_ok, e_not, start_eq, e_var, then_rt, then_nx, end_rt, end_nx, a_name, a_tup, as_nil, as_cons, biSem, ofO_some, tst_bl, tst_tup, notR_ok, O2.sem, C2.sem, sAdd, sSub, sOrd, subTy, newL, is_nn, is_in, is_bb, is_tn, eq_ii, eq_ss, gz7, gz8, gz9, gz10, gz11, gz12, hM']
  rw [ss_cons, st, bind_ok, then_nx]
  simp [j1, j2, e, q, ss_cons, ss_nil, s_ret, s_retN, s_ife, s_ex, s_asg, s_par, s_pass, e_and, e_or, e_ite, e_c, e_bi, e_call, e_callK, e_cmp, e_op, e_ix, e_neg, e_tup, e_lst, e_dic0, e_frz, es_cons, es_nil, e_gv, bind_ok, e_not, start_eq, e_var, then_rt, then_nx, end_rt, end_nx, a_name, a_tup, as_nil, as_cons, biSem, ofO_some, tst_bl, tst_tup, notR_ok, O2.sem, C2.sem, sAdd, sSub, sOrd, subTy, newL, is_nn, is_in, is_bb, is_tn, eq_ii, eq_ss, gz7, gz8, gz9, gz10, gz11, gz12]
theorem bits90 {l : Int} (h0 : 0 ≤ l) (h1 : l < 2 ^ 90) : Builtin.Int.intBits l ≤ 90 := by
  have hl : l.natAbs.log2 < 90 := PySem.Flt.log2_lt_of (by decide) (by
    have e2 : ((2 ^ 90 : Nat) : Int) = 2 ^ 90 := by norm_cast
    omega)
  unfold Builtin.Int.intBits
  split <;> omega
theorem pow_step {i : Nat} {dr h : Int} (h0 : 0 ≤ dr) (h1 : dr < 2 ^ (40 * i)) (h2 : 0 ≤ h) (h3 : h < 2147483647) : 0 ≤ dr * 2147483587 + h ∧ dr * 2147483587 + h < 2 ^ (40 * (i + 1)) := by
  have e : (2 : Int) ^ (40 * (i + 1)) = 2 ^ (40 * i) * 2 ^ 40 := by
    rw [Nat.mul_succ, Int.pow_add]
  have e2 : (2 : Int) ^ 40 = 1099511627776 := by decide +kernel
  rw [e, e2]
  generalize (2 : Int) ^ (40 * i) = X at h1 ⊢
  omega
theorem pow_le160 {i : Nat} (h : i ≤ 4) : (2 : Int) ^ (40 * i) ≤ 2 ^ 160 := by
  have := Nat.pow_le_pow_right (by decide : 0 < 2) (by omega : 40 * i ≤ 160)
  exact_mod_cast this
theorem random_ok {B : Nat} {l : Int} (h : GA M n B) (hB : B ≤ 10 ^ 9) (l0 : 0 < l) (l1 : l < 2 ^ 90) : ∃ r M', callZ G code (d + 2) 7 [.ref n, .int l] M = .ok (.int r) M' ∧ 0 ≤ r ∧ r < l ∧ Drawn M M' n (B + 10) := by
  rw [x_call (c := c7) rfl]
  have hC : ∀ M s i, 0 ≤ s → s < 2 ^ 31 → 0 ≤ i → i < 2 ^ 40 → ∃ h, callZ G code (d + 1) 17 [.int s, .int i] M = .ok (.int h) M ∧ 0 ≤ h ∧ h < 2147483647 := fun M s i a b c e => hash_ok a b c e
  generalize callZ G code (d + 1) = C at hC ⊢
  obtain ⟨a, b, c, hM, a0, b0, b1, c0, c1⟩ := h
  obtain ⟨i0, i1, i2⟩ := ixr hM
  have hn := lt_of hM
  by_cases ha : 0 < a
  · have g2 : (M.set n (MO.lst [.int (a / l), .int b, .int c]))[n]? = some (.lst [.int (a / l), .int b, .int c]) := get_set hn
    refine ⟨a % l, M.set n (MO.lst [.int (a / l), .int b, .int c]), ?_, Int.emod_nonneg _ (by omega), Int.emod_lt_of_pos _ l0, ⟨⟨_, _, _, g2, Int.ediv_nonneg a0 (by omega), b0, b1, c0, by omega⟩, List.length_set, fun m hm => List.getElem?_set_ne (Ne.symm hm)⟩⟩
    have q := mod_ok (M := M) (i := a) (j := l) l0
    have f : sFdiv (.int a) (.int l) M = some (.int (a / l), M) := by
      unfold sFdiv
      simp only [decide_eq_true l0, sm64 (Int.le_of_lt l0) (by omega : l < 2 ^ 200), Bool.and_self, if_true]
    have ix : ixN 3 0 = some 0 := rfl
    generalize a % l = w at q ⊢
    generalize hM' : M.set n (MO.lst [.int (a / l), .int b, .int c]) = M' at *
    rw [c7]
    simp [i0, ha, q, f, hM, ix, s_set, hM', ss_cons, ss_nil, s_ret, s_retN, s_ife, s_ex, s_asg, s_par, s_pass, e_and, e_or, e_ite, e_c, e_bi, e_call, e_callK, e_cmp, e_op, e_ix, e_neg, e_tup, e_lst, e_dic0, e_frz, es_cons, es_nil, e_gv, bind_ok, e_not, start_eq, e_var, then_rt, then_nx, end_rt, end_nx, a_name, a_tup, as_nil, as_cons, biSem, ofO_some, tst_bl, tst_tup, notR_ok, O2.sem, C2.sem, sAdd, sSub, sOrd, subTy, newL, is_nn, is_in, is_bb, is_tn, eq_ii, eq_ss, gz7, gz8, gz9, gz10, gz11, gz12]
  · have bb := bits90 (Int.le_of_lt l0) l1
    have ez : sOrd (fun i j => decide (j < i)) (.int a) (.int 0) M = some (.bl false, M) := by
      show some (Z.bl (decide (0 < a)), M) = _
      rw [decide_eq_false ha]
    have fd : sFdiv (.int (Builtin.Int.intBits l : Nat)) (.int 30) M = some (.int ((Builtin.Int.intBits l : Nat) / 30), M) := by
      unfold sFdiv
      simp only [show decide ((0 : Int) < 30) = true from rfl, sm64 (i := 30) (by decide) (by decide +kernel), Bool.and_self, if_true]
    have src : dens C G [.op (.add false) (.c (.int 1)) (.op .fdiv (.me .bits (.var 1) []) (.c (.int 30)))] [some (.ref n), some (.int l), some (.int 0), none] M = .ok [.int (1 + (Builtin.Int.intBits l : Nat) / 30)] M := by
      simp [e_me, rcv, meSem, sBits, fd, ss_cons, ss_nil, s_ret, s_retN, s_ife, s_ex, s_asg, s_par, s_pass, e_and, e_or, e_ite, e_c, e_bi, e_call, e_callK, e_cmp, e_op, e_ix, e_neg, e_tup, e_lst, e_dic0, e_frz, es_cons, es_nil, e_gv, bind_ok, e_not, start_eq, e_var, then_rt, then_nx, end_rt, end_nx, a_name, a_tup, as_nil, as_cons, biSem, ofO_some, tst_bl, tst_tup, notR_ok, O2.sem, C2.sem, sAdd, sSub, sOrd, subTy, newL, is_nn, is_in, is_bb, is_tn, eq_ii, eq_ss, gz7, gz8, gz9, gz10, gz11, gz12]
    have it : itemsZ .range1 [.int (1 + ((Builtin.Int.intBits l : Nat) : Int) / 30)] = some (rangeZ 0 (1 + ((Builtin.Int.intBits l : Nat) : Int) / 30).toNat) := by
      simp only [itemsZ, itRange1]
      rw [if_pos (by simp only [Bool.and_eq_true, decide_eq_true_eq]; omega)]
    obtain ⟨η', M', h1, dr, t, hη, hm, d0, d1, hl, hk⟩ := for_all (tg := .name 3) (b := runs C G c7_0) (M := M) (η := [some (.ref n), some (.int l), some (.int 0), none])
      (fun i η M' => ∃ dr t, η = [some (.ref n), some (.int l), some (.int dr), t] ∧ M'[n]? = some (.lst [.int a, .int b, .int (c + i)]) ∧ 0 ≤ dr ∧ dr < 2 ^ (40 * i) ∧ M'.length = M.length ∧ ∀ m, m ≠ n → M'[m]? = M[m]?) (rangeZ 0 (1 + ((Builtin.Int.intBits l : Nat) : Int) / 30).toNat)
      (fun i z η M' hz ⟨dr, t, hη, hm, d0, d1, hl, hk⟩ => by
        have hi := (List.getElem?_eq_some_iff.mp hz).1
        rw [rangeZ_len] at hi
        have hi4 : i ≤ 4 := by omega
        have p160 := pow_le160 hi4
        have p190 : (2 : Int) ^ 160 < 2 ^ 190 := by decide +kernel
        subst hη
        obtain ⟨h', x0, x1, e⟩ := turn7 (C := C) (lim := l) (t := some z) hC hm ⟨b0, b1⟩ ⟨by omega, by omega⟩ ⟨d0, by omega⟩
        obtain ⟨y0, y1⟩ := pow_step d0 d1 x0 x1
        refine ⟨[some (.ref n), some (.int l), some (.int dr), some z], rfl, _, _, .inl e, _, _, rfl, ?_, y0, y1, by rw [List.length_set]; exact hl, fun m hm => by rw [List.getElem?_set_ne (Ne.symm hm)]; exact hk m hm⟩
        rw [get_set (lt_of hm)]
        have : c + (i : Int) + 1 = c + ((i + 1 : Nat) : Int) := by omega
        rw [this]) ⟨0, none, rfl, by simpa using hM, Int.le_refl _, by decide, rfl, fun _ _ => rfl⟩
    rw [rangeZ_len] at hm
    refine ⟨dr % l, M', ?_, Int.emod_nonneg _ (by omega), Int.emod_lt_of_pos _ l0, ⟨⟨a, b, _, hm, a0, b0, b1, by omega, by omega⟩, hl, hk⟩⟩
    have q := mod_ok (M := M') (i := dr) (j := l) l0
    have lp : run C G c7_1 [some (.ref n), some (.int l), some (.int 0), none] M = .ok (.nx η') M' := by
      unfold c7_1
      rw [s_for, src, bind_ok, it]
      exact h1
    generalize dr % l = w at q ⊢
    subst hη
    rw [c7]
    simp [i0, ez, lp, q, ss_cons, ss_nil, s_ret, s_retN, s_ife, s_ex, s_asg, s_par, s_pass, e_and, e_or, e_ite, e_c, e_bi, e_call, e_callK, e_cmp, e_op, e_ix, e_neg, e_tup, e_lst, e_dic0, e_frz, es_cons, es_nil, e_gv, bind_ok, e_not, start_eq, e_var, then_rt, then_nx, end_rt, end_nx, a_name, a_tup, as_nil, as_cons, ofO_some, tst_bl, tst_tup, notR_ok, O2.sem, C2.sem, newL, is_nn, is_in, is_bb, is_tn, eq_ii, eq_ss, gz7, gz8, gz9, gz10, gz11, gz12, biSem]
end K15
end
section
namespace K15
open PySem L2 ZM
variable {C : Calls} {M : Mem} {d n : Nat}
/-- draws, of a machine of calls -/
def Rnd (C : Calls) : Prop := ∀ (n : Nat) (M : Mem) (B : Nat) (l : Int), GA M n B → B ≤ 10 ^ 9 → 0 < l → l < 2 ^ 90 → ∃ r M', C 7 [.ref n, .int l] M = .ok (.int r) M' ∧ 0 ≤ r ∧ r < l ∧ Drawn M M' n (B + 10)
theorem rnd (d : Nat) : Rnd (callZ G code (d + 2)) := fun n M B l h hB l0 l1 => random_ok h hB l0 l1
theorem GA.mono {B B' : Nat} (h : GA M n B) (hb : B ≤ B') : GA M n B' := by
  obtain ⟨a, b, c, h1, h2, h3, h4, h5, h6⟩ := h
  exact ⟨a, b, c, h1, h2, h3, h4, h5, by omega⟩
theorem Drawn.trans {M M1 M2 : Mem} {B B' : Nat} (a : Drawn M M1 n B) (b : Drawn M1 M2 n B') : Drawn M M2 n B' := ⟨b.ga, b.len.trans a.len, fun m hm => (b.keep m hm).trans (a.keep m hm)⟩
theorem Drawn.mono {M M1 : Mem} {B B' : Nat} (a : Drawn M M1 n B) (h : B ≤ B') : Drawn M M1 n B' := ⟨a.ga.mono h, a.len, a.keep⟩
theorem kind_ok {B : Nat} (h : GA M n B) (hB : B ≤ 10 ^ 8) : ∃ k M', callZ G code (d + 3) 2 [.ref n] M = .ok (.str k) M' ∧ Kd k ∧ Drawn M M' n (B + 10) := by
  rw [x_call (c := c2) rfl]
  have R := rnd d
  generalize callZ G code (d + 2) = C at R ⊢
  obtain ⟨r, M', e, r0, r1, D⟩ := R n M B 3 h (by omega) (by decide) (by decide +kernel)
  have e3 : 3 ≤ sizeLine := by decide
  have cases3 : r = 0 ∨ r = 1 ∨ r = 2 := by omega
  rw [c2]
  rcases cases3 with rfl | rfl | rfl
  · refine ⟨"over", M', ?_, .inl rfl, D⟩
    have ix : sIx (.lst [.str "over", .str "into", .str "whole"]) (.int 0) M' = some (.str "over", M') := id rfl
    simp [e, ix, e3, ss_cons, ss_nil, s_ret, s_retN, s_ife, s_ex, s_asg, s_par, s_pass, e_and, e_or, e_ite, e_c, e_bi, e_call, e_callK, e_cmp, e_op, e_ix, e_neg, e_tup, e_lst, e_dic0, e_frz, es_cons, es_nil, e_gv, bind_ok, e_not, start_eq, e_var, then_rt, then_nx, end_rt, end_nx, a_name, a_tup, as_nil, as_cons, ofO_some, tst_bl, tst_tup, notR_ok, O2.sem, C2.sem, newL, is_nn, is_in, is_bb, is_tn, eq_ii, eq_ss, gz7, gz8, gz9, gz10, gz11, gz12]
  · refine ⟨"into", M', ?_, .inr (.inl rfl), D⟩
    have ix : sIx (.lst [.str "over", .str "into", .str "whole"]) (.int 1) M' = some (.str "into", M') := id rfl
    simp [e, ix, e3, ss_cons, ss_nil, s_ret, s_retN, s_ife, s_ex, s_asg, s_par, s_pass, e_and, e_or, e_ite, e_c, e_bi, e_call, e_callK, e_cmp, e_op, e_ix, e_neg, e_tup, e_lst, e_dic0, e_frz, es_cons, es_nil, e_gv, bind_ok, e_not, start_eq, e_var, then_rt, then_nx, end_rt, end_nx, a_name, a_tup, as_nil, as_cons, ofO_some, tst_bl, tst_tup, notR_ok, O2.sem, C2.sem, newL, is_nn, is_in, is_bb, is_tn, eq_ii, eq_ss, gz7, gz8, gz9, gz10, gz11, gz12]
  · refine ⟨"whole", M', ?_, .inr (.inr rfl), D⟩
    have ix : sIx (.lst [.str "over", .str "into", .str "whole"]) (.int 2) M' = some (.str "whole", M') := id rfl
    simp [e, ix, e3, ss_cons, ss_nil, s_ret, s_retN, s_ife, s_ex, s_asg, s_par, s_pass, e_and, e_or, e_ite, e_c, e_bi, e_call, e_callK, e_cmp, e_op, e_ix, e_neg, e_tup, e_lst, e_dic0, e_frz, es_cons, es_nil, e_gv, bind_ok, e_not, start_eq, e_var, then_rt, then_nx, end_rt, end_nx, a_name, a_tup, as_nil, as_cons, ofO_some, tst_bl, tst_tup, notR_ok, O2.sem, C2.sem, newL, is_nn, is_in, is_bb, is_tn, eq_ii, eq_ss, gz7, gz8, gz9, gz10, gz11, gz12]
/-- a comprehension whose turns keep a word -/
theorem turns_inv {η : Sl} {tg : Tg} {t : ZT} {e : ZE} (P : Nat → List Z → Mem → Prop) (l : List Z)
    (h : ∀ i z acc M, l[i]? = some z → P i acc M → ∃ η1, asg tg z η = some η1 ∧ ∃ b M1, t η1 M = .ok b M1 ∧ if b = true then ∃ y M2, e η1 M1 = .ok y M2 ∧ acc.length < sizeLine ∧ P (i + 1) (acc ++ [y]) M2 else P (i + 1) acc M1) :
    ∀ (m i : Nat) (acc : List Z) (M : Mem), l.length = i + m → P i acc M → ∃ acc' M', turns η tg t e (l.drop i) acc M = .ok acc' M' ∧ P l.length acc' M'
  | 0, i, acc, M, hl, p => by
    rw [List.drop_of_length_le (by omega)]
    refine ⟨acc, M, by rw [turns], ?_⟩
    have : l.length = i := by omega
    rw [this]
    exact p
  | m + 1, i, acc, M, hl, p => by
    have hi : i < l.length := by omega
    rw [List.drop_eq_getElem_cons hi]
    obtain ⟨η1, h1, b, M1, h2, h3⟩ := h i l[i] acc M (List.getElem?_eq_getElem hi) p
    rw [turns, h1]
    dsimp only
    rw [h2]
    show ∃ acc' M', (if b = true then _ else _) = _ ∧ _
    cases b with
    | true =>
      rw [if_pos rfl] at h3 ⊢
      obtain ⟨y, M2, h4, h5, h6⟩ := h3
      obtain ⟨acc', M', q1, q2⟩ := turns_inv P l h m (i + 1) _ _ (by omega) h6
      refine ⟨acc', M', ?_, q2⟩
      rw [h4]
      show (if acc.length < sizeLine then _ else _) = _
      rw [if_pos h5]
      exact q1
    | false =>
      rw [if_neg Bool.false_ne_true] at h3 ⊢
      obtain ⟨acc', M', q1, q2⟩ := turns_inv P l h m (i + 1) _ _ (by omega) h3
      exact ⟨acc', M', q1, q2⟩
theorem tops_ok {B : Nat} (h : GA M n B) (hB : B ≤ 10 ^ 8) : ∃ ts M', callZ G code (d + 3) 11 [.ref n, .int 9, .int 2] M = .ok (lz ts) M' ∧ Drawn M M' n (B + 90) ∧ (∀ t ∈ ts, 1 ≤ t ∧ t ≤ 9) ∧ ts.Pairwise (· < ·) ∧ ts.length ≤ 9 := by
  rw [x_call (c := c11) rfl]
  have R := rnd d
  generalize callZ G code (d + 2) = C at R ⊢
  obtain ⟨acc, M', h1, ts, e1, D, h2, h3, h4⟩ := turns_inv (η := [some (.ref n), some (.int 9), some (.int 2), none]) (tg := .name 3) (t := denT C G [.cmp .lt (.call 20 7 [.var 0, .var 1]) (.var 2)]) (e := den C G (.var 3))
    (fun i acc M' => ∃ ts : List Int, acc = ts.map .int ∧ Drawn M M' n (B + 10 * i) ∧ (∀ t ∈ ts, 1 ≤ t ∧ t ≤ i) ∧ ts.Pairwise (· < ·) ∧ ts.length ≤ i) (rangeZ 1 9)
    (fun i z acc M' hz ⟨ts, e1, D, h2, h3, h4⟩ => by
      have hi := (List.getElem?_eq_some_iff.mp hz).1
      rw [rangeZ_len] at hi
      rw [rangeZ_get _ _ _ hi] at hz
      cases hz
      subst e1
      obtain ⟨r, M1, e, r0, r1, D1⟩ := R n M' (B + 10 * i) 9 D.ga (by omega) (by decide) (by decide +kernel)
      refine ⟨[some (.ref n), some (.int 9), some (.int 2), some (.int (1 + (i : Int)))], rfl, decide (r < 2), M1, ?_, ?_⟩
      · simp [t_one, e, ss_cons, ss_nil, s_ret, s_retN, s_ife, s_ex, s_asg, s_par, s_pass, e_and, e_or, e_ite, e_c, e_bi, e_call, e_callK, e_cmp, e_op, e_ix, e_neg, e_tup, e_lst, e_dic0, e_frz, es_cons, es_nil, e_gv, bind_ok, e_not, start_eq, e_var, then_rt, then_nx, end_rt, end_nx, a_name, a_tup, as_nil, as_cons, biSem, ofO_some, tst_bl, tst_tup, notR_ok, O2.sem, C2.sem, sAdd, sSub, sOrd, subTy, newL, is_nn, is_in, is_bb, is_tn, eq_ii, eq_ss, gz7, gz8, gz9, gz10, gz11, gz12]
      · by_cases hr : r < 2
        · rw [decide_eq_true hr, if_pos rfl]
          refine ⟨.int (1 + (i : Int)), M1, by simp [ss_cons, ss_nil, s_ret, s_retN, s_ife, s_ex, s_asg, s_par, s_pass, e_and, e_or, e_ite, e_c, e_bi, e_call, e_callK, e_cmp, e_op, e_ix, e_neg, e_tup, e_lst, e_dic0, e_frz, es_cons, es_nil, e_gv, bind_ok, e_not, start_eq, e_var, then_rt, then_nx, end_rt, end_nx, a_name, a_tup, as_nil, as_cons, biSem, ofO_some, tst_bl, tst_tup, notR_ok, O2.sem, C2.sem, sAdd, sSub, sOrd, subTy, newL, is_nn, is_in, is_bb, is_tn, eq_ii, eq_ss, gz7, gz8, gz9, gz10, gz11, gz12], by rw [List.length_map]; exact Nat.lt_of_le_of_lt (Nat.le_trans h4 (Nat.le_of_lt hi)) (by decide), ts ++ [1 + (i : Int)], by rw [List.map_append]; rfl, (D.trans D1).mono (by omega), fun t ht => ?_, ?_, by rw [List.length_append, List.length_singleton]; omega⟩
          · rcases List.mem_append.mp ht with h | h
            · have := h2 t h
              omega
            · rw [List.mem_singleton] at h
              omega
          · rw [List.pairwise_append]
            refine ⟨h3, List.pairwise_singleton _ _, fun a ha b hb => ?_⟩
            rw [List.mem_singleton] at hb
            have := h2 a ha
            omega
        · rw [decide_eq_false hr, if_neg Bool.false_ne_true]
          exact ⟨ts, rfl, (D.trans D1).mono (by omega), fun t ht => by have := h2 t ht; omega, h3, by omega⟩) 9 0 [] M (by rw [rangeZ_len]) ⟨[], rfl, ⟨by simpa using h, rfl, fun _ _ => rfl⟩, fun t ht => (by cases ht), List.Pairwise.nil, Nat.le_refl _⟩
  rw [rangeZ_len] at D h2 h4
  refine ⟨ts, M', ?_, D, h2, h3, h4⟩
  have q : den C G c11_0 [some (.ref n), some (.int 9), some (.int 2), none] M = .ok (lz ts) M' := by
    unfold c11_0
    rw [e_comp]
    have src : dens C G [.c (.int 1), .op (.add false) (.var 1) (.c (.int 1))] [some (.ref n), some (.int 9), some (.int 2), none] M = .ok [.int 1, .int 10] M := by
      simp [ss_cons, ss_nil, s_ret, s_retN, s_ife, s_ex, s_asg, s_par, s_pass, e_and, e_or, e_ite, e_c, e_bi, e_call, e_callK, e_cmp, e_op, e_ix, e_neg, e_tup, e_lst, e_dic0, e_frz, es_cons, es_nil, e_gv, bind_ok, e_not, start_eq, e_var, then_rt, then_nx, end_rt, end_nx, a_name, a_tup, as_nil, as_cons, biSem, ofO_some, tst_bl, tst_tup, notR_ok, O2.sem, C2.sem, sAdd, sSub, sOrd, subTy, newL, is_nn, is_in, is_bb, is_tn, eq_ii, eq_ss, gz7, gz8, gz9, gz10, gz11, gz12]
    have it : itemsZ .range2 [.int 1, .int 10] = some (rangeZ 1 9) := by
      simp only [itemsZ, itRange2]
      rw [if_pos (by decide +kernel)]
      rfl
    rw [src, bind_ok, it]
    dsimp only
    have h1 : turns (wipeZ [some (.ref n), some (.int 9), some (.int 2), none] [3]) (.name 3) (denT C G [.cmp .lt (.call 20 7 [.var 0, .var 1]) (.var 2)]) (den C G (.var 3)) (rangeZ 1 9) [] M = .ok acc M' := h1
    have hw : (Tg.name 3).own = [3] := by rw [Tg.own]
    rw [hw, h1, bind_ok, e1]
    rfl
  rw [c11]
  simp [q, ss_cons, ss_nil, s_ret, s_retN, s_ife, s_ex, s_asg, s_par, s_pass, e_and, e_or, e_ite, e_c, e_bi, e_call, e_callK, e_cmp, e_op, e_ix, e_neg, e_tup, e_lst, e_dic0, e_frz, es_cons, es_nil, e_gv, bind_ok, e_not, start_eq, e_var, then_rt, then_nx, end_rt, end_nx, a_name, a_tup, as_nil, as_cons, biSem, ofO_some, tst_bl, tst_tup, notR_ok, O2.sem, C2.sem, sAdd, sSub, sOrd, subTy, newL, is_nn, is_in, is_bb, is_tn, eq_ii, eq_ss, gz7, gz8, gz9, gz10, gz11, gz12]
theorem asc_of {ts : List Int} (h : ts.Pairwise (· < ·)) : ∀ i, i + 1 < ts.length → ts.getD i 0 < ts.getD (i + 1) 0 := by
  intro i hi
  have h1 : i < ts.length := by omega
  rw [List.getD_eq_getElem?_getD, List.getD_eq_getElem?_getD, List.getElem?_eq_getElem h1, List.getElem?_eq_getElem hi]
  exact List.pairwise_iff_getElem.mp h i (i + 1) h1 hi (Nat.lt_succ_self i)
theorem room_ok {B : Nat} (h : GA M n B) (hB : B ≤ 10 ^ 7) : ∃ c e ts M', callZ G code (d + 4) 3 [.ref n, .int 9] M = .ok (rm c e ts) M' ∧ Rm c e ts ∧ Drawn M M' n (B + 200) := by
  rw [x_call (c := c3) rfl]
  have R := rnd (d + 1)
  have T : ∀ M B, GA M n B → B ≤ 10 ^ 8 → ∃ ts M', callZ G code (d + 3) 11 [.ref n, .int 9, .int 2] M = .ok (lz ts) M' ∧ Drawn M M' n (B + 90) ∧ (∀ t ∈ ts, 1 ≤ t ∧ t ≤ 9) ∧ ts.Pairwise (· < ·) ∧ ts.length ≤ 9 := fun M B h hB => tops_ok h hB
  generalize callZ G code (d + 3) = C at R T ⊢
  obtain ⟨c, M1, e1, c0, c1, D1⟩ := R n M B 3 h (by omega) (by decide) (by decide +kernel)
  obtain ⟨e, M2, e2, f0, f1, D2⟩ := R n M1 (B + 10) 3 D1.ga (by omega) (by decide) (by decide +kernel)
  obtain ⟨ts, M3, e3, D3, t1, t2, t3⟩ := T M2 (B + 10 + 10) D2.ga (by omega)
  have t99 : (9 : Int) < 2 ^ 100 := by decide +kernel
  have l40 : (3 : Int) < 2 ^ 40 := by decide +kernel
  refine ⟨c, e, ts, M3, ?_, ⟨c0, by omega, f0, by omega, fun t ht => (t1 t ht).1, fun t ht => by have := (t1 t ht).2; omega, asc_of t2, by omega⟩, ((D1.trans D2).trans D3).mono (by omega)⟩
  have e4 : 3 ≤ sizeLine := by decide
  rw [c3]
  simp [e1, e2, e3, e4, rm, ss_cons, ss_nil, s_ret, s_retN, s_ife, s_ex, s_asg, s_par, s_pass, e_and, e_or, e_ite, e_c, e_bi, e_call, e_callK, e_cmp, e_op, e_ix, e_neg, e_tup, e_lst, e_dic0, e_frz, es_cons, es_nil, e_gv, bind_ok, e_not, start_eq, e_var, then_rt, then_nx, end_rt, end_nx, a_name, a_tup, as_nil, as_cons, biSem, ofO_some, tst_bl, tst_tup, notR_ok, O2.sem, C2.sem, sAdd, sSub, sOrd, subTy, newL, is_nn, is_in, is_bb, is_tn, eq_ii, eq_ss, gz7, gz8, gz9, gz10, gz11, gz12]
end K15
end
section
namespace K15
open PySem L2 ZM
variable {C : Calls} {M : Mem} {d n : Nat}
theorem pow_at (b e : Int) (h : (decide (0 ≤ e) && decide (e ≤ 4000) && smal b) = true) : sPow (.int b) (.int e) M = some (.int (b ^ e.toNat), M) := by
  unfold sPow
  simp only [h, if_true]
theorem p6 : sPow (.int 10) (.int 6) M = some (.int 1000000, M) := pow_at 10 6 (by decide +kernel)
theorem p10 : sPow (.int 10) (.int 10) M = some (.int 10000000000, M) := pow_at 10 10 (by decide +kernel)
theorem p24 : sPow (.int 10) (.int 24) M = some (.int 1000000000000000000000000, M) := pow_at 10 24 (by decide +kernel)
/-- one of three limits, drawn, and a draw under it -/
theorem three {B : Nat} {η : Sl} {x y z : E} {a b c : Int} (R : Rnd C) (h : GA M n B) (hB : B ≤ 10 ^ 8) (h0 : η[0]? = some (some (.ref n))) (hx : ∀ M, den C G x η M = .ok (.int a) M) (hy : ∀ M, den C G y η M = .ok (.int b) M) (hz : ∀ M, den C G z η M = .ok (.int c) M)
    (l : 0 < a ∧ 0 < b ∧ 0 < c) (u : a < 2 ^ 90 ∧ b < 2 ^ 90 ∧ c < 2 ^ 90) {j1 j2 : Nat} : ∃ r M', den C G (.call j1 7 [.var 0, .ix (.lst false [x, y, z]) (.call j2 7 [.var 0, .c (.int 3)])]) η M = .ok (.int r) M' ∧ 0 ≤ r ∧ (r < a ∨ r < b ∨ r < c) ∧ Drawn M M' n (B + 20) := by
  obtain ⟨r, M1, e, r0, r1, D⟩ := R n M B 3 h (by omega) (by decide) (by decide +kernel)
  have e3 : 3 ≤ sizeLine := by decide
  have cases3 : r = 0 ∨ r = 1 ∨ r = 2 := by omega
  rcases cases3 with rfl | rfl | rfl
  · obtain ⟨r', M2, e', q0, q1, D'⟩ := R n M1 (B + 10) a D.ga (by omega) l.1 u.1
    have ix : sIx (.lst [.int a, .int b, .int c]) (.int 0) M1 = some (.int a, M1) := id rfl
    exact ⟨r', M2, by simp [e, e', hx, hy, hz, h0, ix, e3, ss_cons, ss_nil, s_ret, s_retN, s_ife, s_ex, s_asg, s_par, s_pass, e_and, e_or, e_ite, e_c, e_bi, e_call, e_callK, e_cmp, e_op, e_ix, e_neg, e_tup, e_lst, e_dic0, e_frz, es_cons, es_nil, e_gv, bind_ok, e_not, start_eq, e_var, then_rt, then_nx, end_rt, end_nx, a_name, a_tup, as_nil, as_cons, ofO_some, tst_bl, tst_tup, notR_ok, O2.sem, C2.sem, newL, is_nn, is_in, is_bb, is_tn, eq_ii, eq_ss, gz7, gz8, gz9, gz10, gz11, gz12], q0, .inl q1, (D.trans D').mono (by omega)⟩
  · obtain ⟨r', M2, e', q0, q1, D'⟩ := R n M1 (B + 10) b D.ga (by omega) l.2.1 u.2.1
    have ix : sIx (.lst [.int a, .int b, .int c]) (.int 1) M1 = some (.int b, M1) := id rfl
    exact ⟨r', M2, by simp [e, e', hx, hy, hz, h0, ix, e3, ss_cons, ss_nil, s_ret, s_retN, s_ife, s_ex, s_asg, s_par, s_pass, e_and, e_or, e_ite, e_c, e_bi, e_call, e_callK, e_cmp, e_op, e_ix, e_neg, e_tup, e_lst, e_dic0, e_frz, es_cons, es_nil, e_gv, bind_ok, e_not, start_eq, e_var, then_rt, then_nx, end_rt, end_nx, a_name, a_tup, as_nil, as_cons, ofO_some, tst_bl, tst_tup, notR_ok, O2.sem, C2.sem, newL, is_nn, is_in, is_bb, is_tn, eq_ii, eq_ss, gz7, gz8, gz9, gz10, gz11, gz12], q0, .inr (.inl q1), (D.trans D').mono (by omega)⟩
  · obtain ⟨r', M2, e', q0, q1, D'⟩ := R n M1 (B + 10) c D.ga (by omega) l.2.2 u.2.2
    have ix : sIx (.lst [.int a, .int b, .int c]) (.int 2) M1 = some (.int c, M1) := id rfl
    exact ⟨r', M2, by simp [e, e', hx, hy, hz, h0, ix, e3, ss_cons, ss_nil, s_ret, s_retN, s_ife, s_ex, s_asg, s_par, s_pass, e_and, e_or, e_ite, e_c, e_bi, e_call, e_callK, e_cmp, e_op, e_ix, e_neg, e_tup, e_lst, e_dic0, e_frz, es_cons, es_nil, e_gv, bind_ok, e_not, start_eq, e_var, then_rt, then_nx, end_rt, end_nx, a_name, a_tup, as_nil, as_cons, ofO_some, tst_bl, tst_tup, notR_ok, O2.sem, C2.sem, newL, is_nn, is_in, is_bb, is_tn, eq_ii, eq_ss, gz7, gz8, gz9, gz10, gz11, gz12], q0, .inr (.inr q1), (D.trans D').mono (by omega)⟩
theorem step4 {B t : Nat} {here : Int} {tn : Option Z} {ts : List Int} (R : Rnd C) (h : GA M n B) (hB : B ≤ 10 ^ 8) (hnt : t ≠ n) (ht : M[t]? = some (.lst (ts.map .int))) (hl : ts.length ≤ 100) :
    ∃ r M', 0 ≤ r ∧ r < 1000000000000000000000000 ∧ runs C G c4_0 [some (.ref n), some (.ref t), some (.int here), tn] M = .ok (.nx [some (.ref n), some (.ref t), some (.int (here + 1 + r)), tn]) M' ∧ GA M' n (B + 20) ∧ M'.length = M.length ∧ M'[t]? = some (.lst ((ts ++ [here + 1 + r]).map .int)) := by
  obtain ⟨r, M1, e, r0, r1, D⟩ := three (C := C) (M := M) (n := n) (η := [some (.ref n), some (.ref t), some (.int here), tn]) (x := .c (.int 10)) (y := .op .pow (.c (.int 10)) (.c (.int 6))) (z := .op .pow (.c (.int 10)) (.c (.int 24))) (a := 10) (b := 1000000) (c := 1000000000000000000000000) R h hB rfl (fun M => e_c) (fun M => by simp [p6, ss_cons, ss_nil, s_ret, s_retN, s_ife, s_ex, s_asg, s_par, s_pass, e_and, e_or, e_ite, e_c, e_bi, e_call, e_callK, e_cmp, e_op, e_ix, e_neg, e_tup, e_lst, e_dic0, e_frz, es_cons, es_nil, e_gv, bind_ok, e_not, start_eq, e_var, then_rt, then_nx, end_rt, end_nx, a_name, a_tup, as_nil, as_cons, ofO_some, tst_bl, tst_tup, notR_ok, O2.sem, C2.sem, newL, is_nn, is_in, is_bb, is_tn, eq_ii, eq_ss, gz7, gz8, gz9, gz10, gz11, gz12]) (fun M => by simp [p24, ss_cons, ss_nil, s_ret, s_retN, s_ife, s_ex, s_asg, s_par, s_pass, e_and, e_or, e_ite, e_c, e_bi, e_call, e_callK, e_cmp, e_op, e_ix, e_neg, e_tup, e_lst, e_dic0, e_frz, es_cons, es_nil, e_gv, bind_ok, e_not, start_eq, e_var, then_rt, then_nx, end_rt, end_nx, a_name, a_tup, as_nil, as_cons, ofO_some, tst_bl, tst_tup, notR_ok, O2.sem, C2.sem, newL, is_nn, is_in, is_bb, is_tn, eq_ii, eq_ss, gz7, gz8, gz9, gz10, gz11, gz12]) (by decide) (by decide +kernel) (j1 := 20) (j2 := 20)
  have ht1 : M1[t]? = some (.lst (ts.map .int)) := (D.keep t hnt).trans ht
  have htl := lt_of ht1
  have rc : rcv .append (.ref t) M1 = true := by
    unfold rcv
    simp only [ht1]
  have ap : meSem .append (.ref t) [.int (here + 1 + r)] M1 = some (.non, M1.set t (MO.lst (ts.map .int ++ [.int (here + 1 + r)]))) := by
    show sAppend t [.int (here + 1 + r)] M1 = _
    unfold sAppend
    simp only [ht1]
    rw [if_pos (by rw [List.length_map]; exact Nat.lt_of_le_of_lt hl (by decide))]
  have add_ii : ∀ i j : Int, ∀ M : Mem, sAdd false (.int i) (.int j) M = some (.int (i + j), M) := fun _ _ _ => id rfl
  refine ⟨r, M1.set t (MO.lst (ts.map .int ++ [.int (here + 1 + r)])), r0, by omega, ?_, ?_, by rw [List.length_set]; exact D.len, ?_⟩
  · have st : run C G (.asg (.name 2) (.op (.add false) (.op (.add false) (.var 2) (.c (.int 1))) (.call 20 7 [(.var 0), (.ix (.lst false [(.c (.int 10)), (.op .pow (.c (.int 10)) (.c (.int 6))), (.op .pow (.c (.int 10)) (.c (.int 24)))]) (.call 20 7 [(.var 0), (.c (.int 3))]))]))) [some (.ref n), some (.ref t), some (.int here), tn] M = .ok (.nx [some (.ref n), some (.ref t), some (.int (here + 1 + r)), tn]) M1 := by
      rw [s_asg, e_op, e_op]
      simp only [e_var (η := [some (.ref n), some (.ref t), some (.int here), tn]) (i := 2) (z := .int here) rfl, bind_ok, e_c, O2.sem, add_ii, ofO_some, e]
      rfl
    unfold c4_0
    rw [ss_cons, st, bind_ok, then_nx]
    generalize hM2 : M1.set t (MO.lst (ts.map .int ++ [.int (here + 1 + r)])) = M2 at ap ⊢
    simp [e_me, rc, ap, ss_cons, ss_nil, s_ret, s_retN, s_ife, s_ex, s_asg, s_par, s_pass, e_and, e_or, e_ite, e_c, e_bi, e_call, e_callK, e_cmp, e_op, e_ix, e_neg, e_tup, e_lst, e_dic0, e_frz, es_cons, es_nil, e_gv, bind_ok, e_not, start_eq, e_var, then_rt, then_nx, end_rt, end_nx, a_name, a_tup, as_nil, as_cons, ofO_some, tst_bl, tst_tup, notR_ok, O2.sem, C2.sem, newL, is_nn, is_in, is_bb, is_tn, eq_ii, eq_ss, gz7, gz8, gz9, gz10, gz11, gz12]
  · obtain ⟨a, b, c, h1, h2⟩ := D.ga
    exact ⟨a, b, c, by rw [List.getElem?_set_ne hnt]; exact h1, h2⟩
  · rw [get_set htl, List.map_append]
    rfl
theorem great_ok {B : Nat} (h : GA M n B) (hB : B ≤ 10 ^ 7) : ∃ c e ts M', callZ G code (d + 3) 4 [.ref n] M = .ok (rm c e ts) M' ∧ Rm c e ts ∧ GA M' n (B + 300) := by
  rw [x_call (c := c4) rfl]
  have R := rnd d
  generalize callZ G code (d + 2) = C at R ⊢
  have hn : n < M.length := by
    obtain ⟨a, b, c, h1, _⟩ := h
    exact lt_of h1
  have h1 : GA (M ++ [MO.lst []]) n B := by
    obtain ⟨a, b, c, h1, h2⟩ := h
    exact ⟨a, b, c, by rw [List.getElem?_append_left hn]; exact h1, h2⟩
  have ht : (M ++ [MO.lst []])[M.length]? = some (.lst (([] : List Int).map .int)) := by simp
  have hnt : M.length ≠ n := by omega
  obtain ⟨r, M1, e, r0, r1, D⟩ := R n _ B 8 h1 (by omega) (by decide) (by decide +kernel)
  have ht1 := (D.keep M.length hnt).trans ht
  obtain ⟨η', M2, q1, here, tn, ts, hη, g2, l2, t2, k1, k2, k3, k4, k5⟩ := for_all (tg := .name 3) (b := runs C G c4_0) (M := M1) (η := [some (.ref n), some (.ref M.length), some (.int 0), none])
    (fun i η M' => ∃ (here : Int) (tn : Option Z) (ts : List Int), η = [some (.ref n), some (.ref M.length), some (.int here), tn] ∧ GA M' n (B + 10 + 20 * i) ∧ M'.length = M1.length ∧ M'[M.length]? = some (.lst (ts.map .int)) ∧ ts.length = i ∧ ts.Pairwise (· < ·) ∧ (∀ x ∈ ts, 1 ≤ x ∧ x ≤ here) ∧ 0 ≤ here ∧ here ≤ 1000000000000000000000000 * i) (rangeZ 0 r.toNat)
    (fun i z η M' hz ⟨here, tn, ts, hη, g, hl, ht, k1, k2, k3, k4, k5⟩ => by
      have hi := (List.getElem?_eq_some_iff.mp hz).1
      rw [rangeZ_len] at hi
      subst hη
      obtain ⟨x, M3, x0, x1, e3, g3, l3, t3⟩ := step4 (here := here) (tn := some z) R g (by omega) hnt ht (by omega)
      refine ⟨_, rfl, _, M3, .inl e3, here + 1 + x, some z, ts ++ [here + 1 + x], rfl, ?_, l3.trans hl, t3, by rw [List.length_append, List.length_singleton, k1], ?_, fun y hy => ?_, by omega, by omega⟩
      · exact g3.mono (by omega)
      · rw [List.pairwise_append]
        refine ⟨k2, List.pairwise_singleton _ _, fun a ha b hb => ?_⟩
        rw [List.mem_singleton] at hb
        have := k3 a ha
        omega
      · rcases List.mem_append.mp hy with hy | hy
        · have := k3 y hy
          omega
        · rw [List.mem_singleton] at hy
          omega) ⟨0, none, [], rfl, by simpa using D.ga, rfl, ht1, rfl, List.Pairwise.nil, fun x hx => (by cases hx), Int.le_refl _, by simp⟩
  rw [rangeZ_len] at g2 k1 k5
  subst hη
  obtain ⟨c, M3, ec, c0, c1, D3⟩ := three (C := C) (M := M2) (n := n) (η := [some (.ref n), some (.ref M.length), some (.int here), tn]) (x := .c (.int 4)) (y := .op .pow (.c (.int 10)) (.c (.int 6))) (z := .op .pow (.c (.int 10)) (.c (.int 10))) (a := 4) (b := 1000000) (c := 10000000000) R g2 (by omega) rfl (fun M => e_c) (fun M => by simp [p6, ss_cons, ss_nil, s_ret, s_retN, s_ife, s_ex, s_asg, s_par, s_pass, e_and, e_or, e_ite, e_c, e_bi, e_call, e_callK, e_cmp, e_op, e_ix, e_neg, e_tup, e_lst, e_dic0, e_frz, es_cons, es_nil, e_gv, bind_ok, e_not, start_eq, e_var, then_rt, then_nx, end_rt, end_nx, a_name, a_tup, as_nil, as_cons, ofO_some, tst_bl, tst_tup, notR_ok, O2.sem, C2.sem, newL, is_nn, is_in, is_bb, is_tn, eq_ii, eq_ss, gz7, gz8, gz9, gz10, gz11, gz12]) (fun M => by simp [p10, ss_cons, ss_nil, s_ret, s_retN, s_ife, s_ex, s_asg, s_par, s_pass, e_and, e_or, e_ite, e_c, e_bi, e_call, e_callK, e_cmp, e_op, e_ix, e_neg, e_tup, e_lst, e_dic0, e_frz, es_cons, es_nil, e_gv, bind_ok, e_not, start_eq, e_var, then_rt, then_nx, end_rt, end_nx, a_name, a_tup, as_nil, as_cons, ofO_some, tst_bl, tst_tup, notR_ok, O2.sem, C2.sem, newL, is_nn, is_in, is_bb, is_tn, eq_ii, eq_ss, gz7, gz8, gz9, gz10, gz11, gz12]) (by decide) (by decide +kernel) (j1 := 20) (j2 := 20)
  obtain ⟨e', M4, ee, f0, f1, D4⟩ := three (C := C) (M := M3) (n := n) (η := [some (.ref n), some (.ref M.length), some (.int here), tn]) (x := .c (.int 4)) (y := .c (.int 12)) (z := .c (.int 60)) (a := 4) (b := 12) (c := 60) R D3.ga (by omega) rfl (fun M => e_c) (fun M => e_c) (fun M => e_c) (by decide) (by decide +kernel) (j1 := 20) (j2 := 20)
  have ht4 : M4[M.length]? = some (.lst (ts.map .int)) := ((D4.keep _ hnt).trans (D3.keep _ hnt)).trans t2
  have fz : frzR (.ref M.length) M4 = .ok (lz ts) (M4.set M.length .dead) := by
    unfold frzR
    simp only [ht4]
    rfl
  have b40 : (10000000000 : Int) < 2 ^ 40 := by decide +kernel
  have b100 : (8000000000000000000000000 : Int) < 2 ^ 100 := by decide +kernel
  refine ⟨c, e', ts, M4.set M.length .dead, ?_, ⟨c0, by omega, f0, by omega, fun t ht => (k3 t ht).1, fun t ht => by have := (k3 t ht).2; omega, asc_of k2, by omega⟩, ?_⟩
  · have s0 : run C G (.par [1, 2] [(.lst true []), (.c (.int 0))]) [some (.ref n), none, none, none] M = .ok (.nx [some (.ref n), some (.ref M.length), some (.int 0), none]) (M ++ [MO.lst []]) := by
      simp [ss_cons, ss_nil, s_ret, s_retN, s_ife, s_ex, s_asg, s_par, s_pass, e_and, e_or, e_ite, e_c, e_bi, e_call, e_callK, e_cmp, e_op, e_ix, e_neg, e_tup, e_lst, e_dic0, e_frz, es_cons, es_nil, e_gv, bind_ok, e_not, start_eq, e_var, then_rt, then_nx, end_rt, end_nx, a_name, a_tup, as_nil, as_cons, ofO_some, tst_bl, tst_tup, notR_ok, O2.sem, C2.sem, newL, is_nn, is_in, is_bb, is_tn, eq_ii, eq_ss, gz7, gz8, gz9, gz10, gz11, gz12]
    have it : itemsZ .range1 [.int r] = some (rangeZ 0 r.toNat) := by
      simp only [itemsZ, itRange1]
      rw [if_pos (by simp only [Bool.and_eq_true, decide_eq_true_eq]; omega)]
    have src : dens C G [.call 20 7 [(.var 0), (.c (.int 8))]] [some (.ref n), some (.ref M.length), some (.int 0), none] (M ++ [MO.lst []]) = .ok [.int r] M1 := by
      simp [e, ss_cons, ss_nil, s_ret, s_retN, s_ife, s_ex, s_asg, s_par, s_pass, e_and, e_or, e_ite, e_c, e_bi, e_call, e_callK, e_cmp, e_op, e_ix, e_neg, e_tup, e_lst, e_dic0, e_frz, es_cons, es_nil, e_gv, bind_ok, e_not, start_eq, e_var, then_rt, then_nx, end_rt, end_nx, a_name, a_tup, as_nil, as_cons, ofO_some, tst_bl, tst_tup, notR_ok, O2.sem, C2.sem, newL, is_nn, is_in, is_bb, is_tn, eq_ii, eq_ss, gz7, gz8, gz9, gz10, gz11, gz12]
    have s1 : run C G c4_1 [some (.ref n), some (.ref M.length), some (.int 0), none] (M ++ [MO.lst []]) = .ok (.nx [some (.ref n), some (.ref M.length), some (.int here), tn]) M2 := by
      unfold c4_1
      rw [s_for, src, bind_ok, it]
      exact q1
    have e3 : 3 ≤ sizeLine := by decide
    rw [c4]
    show endZ (runs C G [_, _, _] [some (.ref n), none, none, none] M) = _
    rw [ss_cons, s0, bind_ok, then_nx, ss_cons, s1, bind_ok, then_nx, ss_cons, s_ret, e_tup, es_cons, ec, bind_ok, es_cons, ee, bind_ok, es_cons, e_frz, e_var (i := 1) (z := .ref M.length) rfl, bind_ok, fz, bind_ok, es_nil]
    simp [bind_ok, e3, then_rt, end_rt, rm]
  · obtain ⟨a, b, c, h1, h2, h3, h4, h5, h6⟩ := D4.ga
    exact ⟨a, b, c, by rw [List.getElem?_set_ne hnt]; exact h1, h2, h3, h4, h5, by omega⟩
end K15
end
section
namespace K15
open PySem L2 ZM
variable {C : Calls} {M : Mem} {d n : Nat}
/-! ### the script -/
theorem ints_l (l : List Int) : intsL (l.map Z.int) = some l := by
  induction l with
  | nil => rfl
  | cons i r ih =>
    rw [List.map_cons]
    unfold intsL
    rw [ih]
theorem cell_ok (ns : List Int) (i : Nat) : ∃ s, callZ G code (d + 1) 10 [.scr ns, .int i] M = .ok (.int s) M := by
  rw [x_call (c := c10) rfl]
  generalize callZ G code d = C
  have ln : biSem .len [.scr ns] M = some (.int ns.length, M) := by
    show (itsL M (.scr ns)).map (fun l => (Z.int l.length, M)) = _
    simp only [itsL, Option.map_some, List.length_map]
  rw [c10]
  by_cases h : i < ns.length
  · have lt : sOrd (fun i j => decide (i < j)) (.int (i : Nat)) (.int (ns.length : Nat)) M = some (.bl true, M) := by
      show some (Z.bl (decide ((i : Int) < (ns.length : Int))), M) = _
      rw [decide_eq_true (by omega)]
    have ix : sIx (.scr ns) (.int (i : Nat)) M = some (.int (ns.getD i 0), M) := by
      have q := at_int (l := ns) (i := (i : Nat)) (by omega) (by omega)
      rw [Int.toNat_natCast] at q
      simp only [sIx, itsL, q, Option.map_some]
    exact ⟨ns.getD i 0, by simp [ln, lt, ix, ss_cons, ss_nil, s_ret, s_retN, s_ife, s_ex, s_asg, s_par, s_pass, e_and, e_or, e_ite, e_c, e_bi, e_call, e_callK, e_cmp, e_op, e_ix, e_neg, e_tup, e_lst, e_dic0, e_frz, es_cons, es_nil, e_gv, bind_ok, e_not, start_eq, e_var, then_rt, then_nx, end_rt, end_nx, a_name, a_tup, as_nil, as_cons, ofO_some, tst_bl, tst_tup, notR_ok, O2.sem, C2.sem, newL, is_nn, is_in, is_bb, is_tn, eq_ii, eq_ss, gz7, gz8, gz9, gz10, gz11, gz12, -List.getD_eq_getElem?_getD]⟩
  · have lt : sOrd (fun i j => decide (i < j)) (.int (i : Nat)) (.int (ns.length : Nat)) M = some (.bl false, M) := by
      show some (Z.bl (decide ((i : Int) < (ns.length : Int))), M) = _
      rw [decide_eq_false (by omega)]
    have sl : sSl false (.scr ns) none (some 1) M = some (.lst ((cutZ (ns.map .int) none (some 1))), M) := id rfl
    have cut : cutZ (ns.map Z.int) none (some 1) = ((ns.drop (HT.sIx (ns.map Z.int).length 0 none)).take (HT.sIx (ns.map Z.int).length (ns.map Z.int).length (some 1) - HT.sIx (ns.map Z.int).length 0 none)).map .int := by
      unfold cutZ
      rw [← List.map_drop, ← List.map_take]
    rw [cut] at sl
    generalize ((ns.drop (HT.sIx (ns.map Z.int).length 0 none)).take (HT.sIx (ns.map Z.int).length (ns.map Z.int).length (some 1) - HT.sIx (ns.map Z.int).length 0 none)) = l at sl
    have sm : biSem .sum [.lst (l.map .int)] M = some (.int l.sum, M) := by
      show (match (itsL M (.lst (l.map .int))).bind intsL with | some l => some (Z.int l.sum, M) | none => none) = _
      simp only [itsL, Option.bind_some, ints_l]
    have q := mod_ok (M := M) (i := l.sum) (j := 1000003) (by decide)
    refine ⟨l.sum % 1000003, ?_⟩
    generalize l.sum % 1000003 = w at q ⊢
    simp [ln, lt, sl, sm, q, e_slB, ss_cons, ss_nil, s_ret, s_retN, s_ife, s_ex, s_asg, s_par, s_pass, e_and, e_or, e_ite, e_c, e_bi, e_call, e_callK, e_cmp, e_op, e_ix, e_neg, e_tup, e_lst, e_dic0, e_frz, es_cons, es_nil, e_gv, bind_ok, e_not, start_eq, e_var, then_rt, then_nx, end_rt, end_nx, a_name, a_tup, as_nil, as_cons, ofO_some, tst_bl, tst_tup, notR_ok, O2.sem, C2.sem, newL, is_nn, is_in, is_bb, is_tn, eq_ii, eq_ss, gz7, gz8, gz9, gz10, gz11, gz12]
theorem gen_ok (ns : List Int) (i : Nat) (hi : i ≤ 4) : ∃ M', callZ G code (d + 2) 1 [.scr ns, .int i] M = .ok (.ref M.length) M' ∧ GA M' M.length 5000 := by
  rw [x_call (c := c1) rfl]
  have hc := cell_ok (d := d) (M := M) ns i
  generalize callZ G code (d + 1) = C at hc ⊢
  obtain ⟨s, e⟩ := hc
  have p18 : sPow (.int 10) (.int 18) M = some (.int (10 ^ 18), M) := pow_at 10 18 (by decide +kernel)
  have p60 : sPow (.int 10) (.int 60) M = some (.int (10 ^ 60), M) := pow_at 10 60 (by decide +kernel)
  have p600 : sPow (.int (10 ^ 60)) (.int 10) M = some (.int ((10 ^ 60) ^ 10), M) := pow_at (10 ^ 60) 10 (by decide +kernel)
  have pos : (0 : Int) < (10 ^ 60) ^ 10 := by decide +kernel
  have mx : biSem .max [.int (s - 10 ^ 18), .int 0] M = some (.int (if 0 > s - 10 ^ 18 then 0 else s - 10 ^ 18), M) := id rfl
  have im : ∀ x : Int, biSem .int [.int x] M = some (.int x, M) := fun x => id rfl
  generalize (10 : Int) ^ 60 = P60 at p60 p600 pos
  generalize P60 ^ 10 = P at p600 pos
  generalize (10 : Int) ^ 18 = P18 at p18 mx
  have q1 := mod_ok (M := M) (i := if 0 > s - P18 then 0 else s - P18) (j := P) pos
  have q2 := mod_ok (M := M) (i := s) (j := 2147483647) (by decide)
  have a0 := Int.emod_nonneg (if 0 > s - P18 then 0 else s - P18) (show P ≠ 0 by omega)
  have b0 := Int.emod_nonneg s (show (2147483647 : Int) ≠ 0 by decide)
  have b1 := Int.emod_lt_of_pos s (show (0 : Int) < 2147483647 by decide)
  generalize (if 0 > s - P18 then 0 else s - P18) = m at mx q1 a0
  generalize m % P = a at q1 a0
  generalize s % 2147483647 = b at q2 b0 b1
  have q3 := mulB (M := M) (m := false) (i := 1000) (j := (i : Nat)) (by decide) (by decide +kernel) (by omega) (by omega)
  have sub_ii : ∀ i j : Int, sSub (.int i) (.int j) M = some (.int (i - j), M) := fun _ _ => id rfl
  have e3 : 3 ≤ sizeLine := by decide
  refine ⟨M ++ [MO.lst [.int a, .int b, .int (1000 * i)]], ?_, a, b, 1000 * i, by simp, a0, b0, by omega, by omega, by omega⟩
  rw [c1]
  simp [e, p18, p60, p600, mx, im, q1, q2, q3, sub_ii, e3, ss_cons, ss_nil, s_ret, s_retN, s_ife, s_ex, s_asg, s_par, s_pass, e_and, e_or, e_ite, e_c, e_bi, e_call, e_callK, e_cmp, e_op, e_ix, e_neg, e_tup, e_lst, e_dic0, e_frz, es_cons, es_nil, e_gv, bind_ok, e_not, start_eq, e_var, then_rt, then_nx, end_rt, end_nx, a_name, a_tup, as_nil, as_cons, ofO_some, tst_bl, tst_tup, notR_ok, O2.sem, C2.sem, newL, is_nn, is_in, is_bb, is_tn, eq_ii, eq_ss, gz7, gz8, gz9, gz10, gz11, gz12]
/-! ### the law -/
def menu (k : Str) (c e : Int) (ts : List Int) : List Int := [1, 5, 9, bnd k c e + 1] ++ ts ++ ts.map (fun t => t + 1) ++ ts.map (fun t => t * 2)
theorem bnd_in {k : Str} {c e : Int} {ts : List Int} (R : Rm c e ts) : 0 ≤ bnd k c e ∧ bnd k c e ≤ 2 ^ 110 := by
  have r1 := R.c0
  have r2 := R.cB
  have r3 := R.e0
  have r4 := R.eB
  have pw : ∀ m : Nat, m ≤ 64 → 0 ≤ (c + 1) * 2 ^ m ∧ (c + 1) * 2 ^ m ≤ 2 ^ 110 := fun m hm => by
    have h1 : (2 : Int) ^ m ≤ 2 ^ 64 := by
      have := Nat.pow_le_pow_right (by decide : 0 < 2) hm
      exact_mod_cast this
    have h0 : (0 : Int) ≤ 2 ^ m := Int.le_of_lt (Int.pow_pos (by decide))
    obtain ⟨x, y⟩ := mul_le (a := c + 1) (A := 2 ^ 40) (b := 2 ^ m) (B := 2 ^ 64) (by omega) (by omega) h0 h1
    exact ⟨x, Int.le_trans y (by decide +kernel)⟩
  unfold bnd
  split
  · split
    · exact pw _ (by omega)
    · exact ⟨Int.le_refl _, by decide +kernel⟩
  · exact pw _ (by omega)
theorem menu_in {k : Str} {c e : Int} {ts : List Int} (R : Rm c e ts) : ∀ m ∈ menu k c e ts, 1 ≤ m ∧ m ≤ 2 ^ 119 := by
  have hb := bnd_in (k := k) R
  have p1 : (2 : Int) ^ 110 + 1 ≤ 2 ^ 119 := by decide +kernel
  have p2 : (2 : Int) ^ 100 * 2 ≤ 2 ^ 119 := by decide +kernel
  have p3 : (9 : Int) ≤ 2 ^ 100 := by decide +kernel
  intro m hm
  unfold menu at hm
  simp only [List.mem_append, List.mem_cons, List.not_mem_nil, or_false, List.mem_map] at hm
  rcases hm with ((h | h) | ⟨t, h, rfl⟩) | ⟨t, h, rfl⟩
  · rcases h with rfl | rfl | rfl | rfl <;> omega
  · have := R.t1 m h
    have := R.tB m h
    omega
  · have := R.t1 t h
    have := R.tB t h
    omega
  · have := R.t1 t h
    have := R.tB t h
    omega
theorem menu_len {k : Str} {c e : Int} {ts : List Int} : (menu k c e ts).length = 4 + 3 * ts.length := by
  unfold menu
  simp only [List.length_append, List.length_cons, List.length_nil, List.length_map]
  omega
def intF (f : Int → Int) : Z → Z
  | .int i => .int (f i)
  | z => z
/-- a frame of law -/
def fl (ns : List Int) (i : Nat) (n : Nat) (k : Str) (c e : Int) (ts : List Int) (m t : Option Z) : Sl := [some (.scr ns), some (.int i), some (.ref n), some (.str k), some (rm c e ts), m, t, none]
theorem comp00 {ns ts : List Int} {i n : Nat} {k : Str} {c e : Int} {m t : Option Z} (hl : ts.length ≤ 100) : den C G c0_0 (fl ns i n k c e ts m t) M = .ok (lz (ts.map fun t => t + 1)) M := by
  unfold c0_0
  rw [comp_pure (zs := [lz ts]) (l := ts.map .int) (fun _ => true) (intF fun t => t + 1) (by simp [fl, ix2, ss_cons, ss_nil, s_ret, s_retN, s_ife, s_ex, s_asg, s_par, s_pass, e_and, e_or, e_ite, e_c, e_bi, e_call, e_callK, e_cmp, e_op, e_ix, e_neg, e_tup, e_lst, e_dic0, e_frz, es_cons, es_nil, e_gv, bind_ok, e_not, start_eq, e_var, then_rt, then_nx, end_rt, end_nx, a_name, a_tup, as_nil, as_cons, ofO_some, tst_bl, tst_tup, notR_ok, O2.sem, C2.sem, newL, is_nn, is_in, is_bb, is_tn, eq_ii, eq_ss, gz7, gz8, gz9, gz10, gz11, gz12]) rfl ?_ (by rw [List.length_map]; exact line1000 (by omega))]
  · rw [List.filter_eq_self.mpr (fun _ _ => rfl), List.map_map]
    show _ = Res.ok (Z.lst ((ts.map fun t => t + 1).map .int)) M
    rw [List.map_map]
    rfl
  · intro z hz
    obtain ⟨x, hx, rfl⟩ := List.mem_map.mp hz
    refine ⟨[some (.scr ns), some (.int i), some (.ref n), some (.str k), some (rm c e ts), m, t, some (.int x)], rfl, t_nil, fun _ => ?_⟩
    simp [intF, ss_cons, ss_nil, s_ret, s_retN, s_ife, s_ex, s_asg, s_par, s_pass, e_and, e_or, e_ite, e_c, e_bi, e_call, e_callK, e_cmp, e_op, e_ix, e_neg, e_tup, e_lst, e_dic0, e_frz, es_cons, es_nil, e_gv, bind_ok, e_not, start_eq, e_var, then_rt, then_nx, end_rt, end_nx, a_name, a_tup, as_nil, as_cons, biSem, ofO_some, tst_bl, tst_tup, notR_ok, O2.sem, C2.sem, sAdd, sSub, sOrd, subTy, newL, is_nn, is_in, is_bb, is_tn, eq_ii, eq_ss, gz7, gz8, gz9, gz10, gz11, gz12]
theorem comp01 {ns ts : List Int} {i n : Nat} {k : Str} {c e : Int} {m t : Option Z} (hl : ts.length ≤ 100) (h0 : ∀ t ∈ ts, 1 ≤ t ∧ t < 2 ^ 100) : den C G c0_1 (fl ns i n k c e ts m t) M = .ok (lz (ts.map fun t => t * 2)) M := by
  unfold c0_1
  rw [comp_pure (zs := [lz ts]) (l := ts.map .int) (fun _ => true) (intF fun t => t * 2) (by simp [fl, ix2, ss_cons, ss_nil, s_ret, s_retN, s_ife, s_ex, s_asg, s_par, s_pass, e_and, e_or, e_ite, e_c, e_bi, e_call, e_callK, e_cmp, e_op, e_ix, e_neg, e_tup, e_lst, e_dic0, e_frz, es_cons, es_nil, e_gv, bind_ok, e_not, start_eq, e_var, then_rt, then_nx, end_rt, end_nx, a_name, a_tup, as_nil, as_cons, ofO_some, tst_bl, tst_tup, notR_ok, O2.sem, C2.sem, newL, is_nn, is_in, is_bb, is_tn, eq_ii, eq_ss, gz7, gz8, gz9, gz10, gz11, gz12]) rfl ?_ (by rw [List.length_map]; exact line1000 (by omega))]
  · rw [List.filter_eq_self.mpr (fun _ _ => rfl), List.map_map]
    show _ = Res.ok (Z.lst ((ts.map fun t => t * 2).map .int)) M
    rw [List.map_map]
    rfl
  · intro z hz
    obtain ⟨x, hx, rfl⟩ := List.mem_map.mp hz
    have b := h0 x hx
    have q := mulB (M := M) (m := false) (i := x) (j := 2) (by omega) (Int.lt_trans b.2 (by decide +kernel)) (by decide) (by decide +kernel)
    refine ⟨[some (.scr ns), some (.int i), some (.ref n), some (.str k), some (rm c e ts), m, t, some (.int x)], rfl, t_nil, fun _ => ?_⟩
    simp [intF, q, ss_cons, ss_nil, s_ret, s_retN, s_ife, s_ex, s_asg, s_par, s_pass, e_and, e_or, e_ite, e_c, e_bi, e_call, e_callK, e_cmp, e_op, e_ix, e_neg, e_tup, e_lst, e_dic0, e_frz, es_cons, es_nil, e_gv, bind_ok, e_not, start_eq, e_var, then_rt, then_nx, end_rt, end_nx, a_name, a_tup, as_nil, as_cons, ofO_some, tst_bl, tst_tup, notR_ok, O2.sem, C2.sem, newL, is_nn, is_in, is_bb, is_tn, eq_ii, eq_ss, gz7, gz8, gz9, gz10, gz11, gz12]
theorem add_lz {a b : List Int} (h : a.length + b.length ≤ 10000) : sAdd false (lz a) (lz b) M = some (lz (a ++ b), M) := by
  unfold sAdd lz
  simp only [ownL, newL, List.length_map]
  rw [if_pos (Nat.le_trans h (by decide)), List.map_append]
  rfl
theorem len_lz {l : List Int} : biSem .len [lz l] M = some (.int l.length, M) := by
  show (itsL M (lz l)).map (fun l => (Z.int l.length, M)) = _
  simp only [lz, itsL, Option.map_some, List.length_map]
/-- what the law calls -/
structure LC (C : Calls) : Prop where
  rnd : Rnd C
  gen : ∀ M ns (i : Nat), i ≤ 4 → ∃ M', C 1 [.scr ns, .int i] M = .ok (.ref M.length) M' ∧ GA M' M.length 5000
  kind : ∀ n M B, GA M n B → B ≤ 10 ^ 7 → ∃ k M', C 2 [.ref n] M = .ok (.str k) M' ∧ Kd k ∧ GA M' n (B + 10)
  room : ∀ n M B, GA M n B → B ≤ 10 ^ 7 → ∃ c e ts M', C 3 [.ref n, .int 9] M = .ok (rm c e ts) M' ∧ Rm c e ts ∧ GA M' n (B + 300)
  great : ∀ n M B, GA M n B → B ≤ 10 ^ 7 → ∃ c e ts M', C 4 [.ref n] M = .ok (rm c e ts) M' ∧ Rm c e ts ∧ GA M' n (B + 300)
  bnd : ∀ M k c e ts, Kd k → Rm c e ts → C 5 [.str k, rm c e ts] M = .ok (.int (bnd k c e)) M
  right : ∀ M k c e ts m, Kd k → Rm c e ts → 1 ≤ m → m ≤ 2 ^ 119 → ∃ l, C 6 [.str k, rm c e ts, .int m] M = .ok (.bl true) ((M ++ [MO.lst l]).set M.length (MO.lst (l ++ [Z.non])))
theorem lc (d : Nat) : LC (callZ G code (d + 10)) where
  rnd := rnd (d + 8)
  gen := fun M ns i hi => gen_ok (d := d + 8) ns i hi
  kind := fun n M B h hB => by
    obtain ⟨k, M', h1, h2, h3⟩ := kind_ok (d := d + 7) h (by omega)
    exact ⟨k, M', h1, h2, h3.ga⟩
  room := fun n M B h hB => by
    obtain ⟨c, e, ts, M', h1, h2, h3⟩ := room_ok (d := d + 6) h hB
    exact ⟨c, e, ts, M', h1, h2, h3.ga.mono (by omega)⟩
  great := fun n M B h hB => great_ok (d := d + 7) h hB
  bnd := fun M k c e ts hk R => lbound (d := d + 9) hk R
  right := fun M k c e ts m hk R h0 h1 => lright (d := d + 3) ⟨hk, R, h0⟩ h1
theorem ga_app {B : Nat} {l : List Z} (h : GA M n B) : GA ((M ++ [MO.lst l]).set M.length (MO.lst (l ++ [Z.non]))) n B := by
  obtain ⟨a, b, c, h1, h2⟩ := h
  have hn := lt_of h1
  exact ⟨a, b, c, by rw [List.getElem?_set_ne (by omega), List.getElem?_append_left hn]; exact h1, h2⟩
theorem inner {ns ts : List Int} {i n B : Nat} {k : Str} {c e : Int} {t : Option Z} (L : LC C) (hk : Kd k) (R : Rm c e ts) (h : GA M n B) (hB : B ≤ 10 ^ 7) : ∃ t' M', run C G c0_3 (fl ns i n k c e ts (some (lz (menu k c e ts))) t) M = .ok (.nx (fl ns i n k c e ts (some (lz (menu k c e ts))) t')) M' ∧ GA M' n (B + 40) := by
  have hl := R.len
  have ml := menu_len (k := k) (c := c) (e := e) (ts := ts)
  obtain ⟨η', M', q1, t', hη, g⟩ := for_all (tg := .name 6) (b := runs C G c0_2) (M := M) (η := fl ns i n k c e ts (some (lz (menu k c e ts))) t)
    (fun j η M' => ∃ t, η = fl ns i n k c e ts (some (lz (menu k c e ts))) t ∧ GA M' n (B + 10 * j)) (rangeZ 0 4)
    (fun j z η M' hz ⟨t, hη, g⟩ => by
      have hj := (List.getElem?_eq_some_iff.mp hz).1
      rw [rangeZ_len] at hj
      subst hη
      obtain ⟨r, M1, er, r0, r1, D⟩ := L.rnd n M' (B + 10 * j) (menu k c e ts).length g (by omega) (by omega) (by omega)
      have ix : sIx (lz (menu k c e ts)) (.int r) M1 = some (.int ((menu k c e ts).getD r.toNat 0), M1) := ix_lz r0 r1
      have hm : (menu k c e ts).getD r.toNat 0 ∈ menu k c e ts := by
        have hr : r.toNat < (menu k c e ts).length := by omega
        rw [List.getD_eq_getElem?_getD, List.getElem?_eq_getElem hr]
        exact List.getElem_mem hr
      obtain ⟨m0, m1⟩ := menu_in R _ hm
      generalize (menu k c e ts).getD r.toNat 0 = m at ix m0 m1
      obtain ⟨l, el⟩ := L.right M1 k c e ts m hk R m0 m1
      refine ⟨fl ns i n k c e ts (some (lz (menu k c e ts))) (some z), rfl, fl ns i n k c e ts (some (lz (menu k c e ts))) (some z), (M1 ++ [MO.lst l]).set M1.length (MO.lst (l ++ [Z.non])), .inl ?_, some z, rfl, (ga_app D.ga).mono (by omega)⟩
      have ln := len_lz (M := M') (l := menu k c e ts)
      generalize hM2 : (M1 ++ [MO.lst l]).set M1.length (MO.lst (l ++ [Z.non])) = M2 at el ⊢
      unfold c0_2 fl
      simp [er, ix, el, ln, ss_cons, ss_nil, s_ret, s_retN, s_ife, s_ex, s_asg, s_par, s_pass, e_and, e_or, e_ite, e_c, e_bi, e_call, e_callK, e_cmp, e_op, e_ix, e_neg, e_tup, e_lst, e_dic0, e_frz, es_cons, es_nil, e_gv, bind_ok, e_not, start_eq, e_var, then_rt, then_nx, end_rt, end_nx, a_name, a_tup, as_nil, as_cons, ofO_some, tst_bl, tst_tup, notR_ok, O2.sem, C2.sem, newL, is_nn, is_in, is_bb, is_tn, eq_ii, eq_ss, gz7, gz8, gz9, gz10, gz11, gz12]) ⟨t, rfl, by simpa using h⟩
  rw [rangeZ_len] at g
  subst hη
  refine ⟨t', M', ?_, g.mono (by omega)⟩
  unfold c0_3
  have src : dens C G [.c (.int 4)] (fl ns i n k c e ts (some (lz (menu k c e ts))) t) M = .ok [.int 4] M := by
    simp [ss_cons, ss_nil, s_ret, s_retN, s_ife, s_ex, s_asg, s_par, s_pass, e_and, e_or, e_ite, e_c, e_bi, e_call, e_callK, e_cmp, e_op, e_ix, e_neg, e_tup, e_lst, e_dic0, e_frz, es_cons, es_nil, e_gv, bind_ok, e_not, start_eq, e_var, then_rt, then_nx, end_rt, end_nx, a_name, a_tup, as_nil, as_cons, ofO_some, tst_bl, tst_tup, notR_ok, O2.sem, C2.sem, newL, is_nn, is_in, is_bb, is_tn, eq_ii, eq_ss, gz7, gz8, gz9, gz10, gz11, gz12]
  have it : itemsZ .range1 [.int 4] = some (rangeZ 0 4) := by
    simp only [itemsZ, itRange1]
    rw [if_pos (by decide +kernel)]
    rfl
  rw [s_for, src, bind_ok, it]
  exact q1
end K15
end
section
namespace K15
open PySem L2 ZM
variable {C : Calls} {M : Mem} {d n : Nat}
theorem add_four {a b c e : Int} {l : List Int} (h : l.length ≤ 1000) : sAdd false (.lst [.int a, .int b, .int c, .int e]) (lz l) M = some (lz ([a, b, c, e] ++ l), M) := add_lz (a := [a, b, c, e]) (by simp; omega)
/-- one index -/
theorem turn0 {ns : List Int} {i : Nat} (L : LC C) (hi : i ≤ 4) {x2 x3 x4 x5 x6 : Option Z} : ∃ n k c e ts t M', runs C G c0_4 [some (.scr ns), some (.int i), x2, x3, x4, x5, x6, none] M = .ok (.nx (fl ns i n k c e ts (some (lz (menu k c e ts))) t)) M' := by
  obtain ⟨M1, e1, g1⟩ := L.gen M ns i hi
  obtain ⟨k, M2, e2, hk, g2⟩ := L.kind _ M1 _ g1 (by omega)
  have rm2 : ∃ c e ts M3, den C G (.ite (.cmp .lt (.var 1) (.c (.int 2))) (.call 16 3 [(.var 2), (.c (.int 9))]) (.call 17 4 [(.var 2)])) [some (.scr ns), some (.int i), some (.ref M.length), some (.str k), x4, x5, x6, none] M2 = .ok (rm c e ts) M3 ∧ Rm c e ts ∧ GA M3 M.length (5000 + 10 + 300) := by
    by_cases h : (i : Int) < 2
    · obtain ⟨c, e, ts, M3, e3, R, g3⟩ := L.room _ M2 _ g2 (by omega)
      refine ⟨c, e, ts, M3, ?_, R, g3⟩
      have lt : sOrd (fun i j => decide (i < j)) (.int (i : Nat)) (.int 2) M2 = some (.bl true, M2) := by
        show some (Z.bl (decide ((i : Int) < 2)), M2) = _
        rw [decide_eq_true h]
      simp [lt, e3, ss_cons, ss_nil, s_ret, s_retN, s_ife, s_ex, s_asg, s_par, s_pass, e_and, e_or, e_ite, e_c, e_bi, e_call, e_callK, e_cmp, e_op, e_ix, e_neg, e_tup, e_lst, e_dic0, e_frz, es_cons, es_nil, e_gv, bind_ok, e_not, start_eq, e_var, then_rt, then_nx, end_rt, end_nx, a_name, a_tup, as_nil, as_cons, ofO_some, tst_bl, tst_tup, notR_ok, O2.sem, C2.sem, newL, is_nn, is_in, is_bb, is_tn, eq_ii, eq_ss, gz7, gz8, gz9, gz10, gz11, gz12]
    · obtain ⟨c, e, ts, M3, e3, R, g3⟩ := L.great _ M2 _ g2 (by omega)
      refine ⟨c, e, ts, M3, ?_, R, g3⟩
      have lt : sOrd (fun i j => decide (i < j)) (.int (i : Nat)) (.int 2) M2 = some (.bl false, M2) := by
        show some (Z.bl (decide ((i : Int) < 2)), M2) = _
        rw [decide_eq_false h]
      simp [lt, e3, ss_cons, ss_nil, s_ret, s_retN, s_ife, s_ex, s_asg, s_par, s_pass, e_and, e_or, e_ite, e_c, e_bi, e_call, e_callK, e_cmp, e_op, e_ix, e_neg, e_tup, e_lst, e_dic0, e_frz, es_cons, es_nil, e_gv, bind_ok, e_not, start_eq, e_var, then_rt, then_nx, end_rt, end_nx, a_name, a_tup, as_nil, as_cons, ofO_some, tst_bl, tst_tup, notR_ok, O2.sem, C2.sem, newL, is_nn, is_in, is_bb, is_tn, eq_ii, eq_ss, gz7, gz8, gz9, gz10, gz11, gz12]
  obtain ⟨c, e, ts, M3, e3, R, g3⟩ := rm2
  have hl := R.len
  obtain ⟨t', M4, e5, g5⟩ := inner (C := C) (M := M3) (ns := ns) (i := i) (t := x6) L hk R g3 (by omega)
  refine ⟨M.length, k, c, e, ts, t', M4, ?_⟩
  have bd := L.bnd M3 k c e ts hk R
  have c1 := comp00 (C := C) (M := M3) (ns := ns) (ts := ts) (i := i) (n := M.length) (k := k) (c := c) (e := e) (m := x5) (t := x6) hl
  have c2 := comp01 (C := C) (M := M3) (ns := ns) (ts := ts) (i := i) (n := M.length) (k := k) (c := c) (e := e) (m := x5) (t := x6) hl fun t ht => ⟨R.t1 t ht, R.tB t ht⟩
  have a1 := add_four (M := M3) (a := 1) (b := 5) (c := 9) (e := bnd k c e + 1) (l := ts) (by omega)
  have a2 := add_lz (M := M3) (a := [1, 5, 9, bnd k c e + 1] ++ ts) (b := ts.map fun t => t + 1) (by simp; omega)
  have a3 := add_lz (M := M3) (a := [1, 5, 9, bnd k c e + 1] ++ ts ++ ts.map fun t => t + 1) (b := ts.map fun t => t * 2) (by simp; omega)
  have add_ii : ∀ i j : Int, sAdd false (.int i) (.int j) M3 = some (.int (i + j), M3) := fun _ _ => id rfl
  have e4 : 4 ≤ sizeLine := by decide
  have st : run C G (.asg (.name 5) (.op (.add false) (.op (.add false) (.op (.add false) (.lst false [(.c (.int 1)), (.c (.int 5)), (.c (.int 9)), (.op (.add false) (.call 18 5 [(.var 3), (.var 4)]) (.c (.int 1)))]) (.ix (.var 4) (.c (.int 2)))) c0_0) c0_1)) [some (.scr ns), some (.int i), some (.ref M.length), some (.str k), some (rm c e ts), x5, x6, none] M3 = .ok (.nx (fl ns i M.length k c e ts (some (lz (menu k c e ts))) x6)) M3 := by
    have l1 : den C G (.lst false [(.c (.int 1)), (.c (.int 5)), (.c (.int 9)), (.op (.add false) (.call 18 5 [(.var 3), (.var 4)]) (.c (.int 1)))]) (fl ns i M.length k c e ts x5 x6) M3 = .ok (.lst [.int 1, .int 5, .int 9, .int (bnd k c e + 1)]) M3 := by
      unfold fl
      simp [bd, add_ii, e4, ss_cons, ss_nil, s_ret, s_retN, s_ife, s_ex, s_asg, s_par, s_pass, e_and, e_or, e_ite, e_c, e_bi, e_call, e_callK, e_cmp, e_op, e_ix, e_neg, e_tup, e_lst, e_dic0, e_frz, es_cons, es_nil, e_gv, bind_ok, e_not, start_eq, e_var, then_rt, then_nx, end_rt, end_nx, a_name, a_tup, as_nil, as_cons, ofO_some, tst_bl, tst_tup, notR_ok, O2.sem, C2.sem, newL, is_nn, is_in, is_bb, is_tn, eq_ii, eq_ss, gz7, gz8, gz9, gz10, gz11, gz12]
    have l2 : den C G (.ix (.var 4) (.c (.int 2))) (fl ns i M.length k c e ts x5 x6) M3 = .ok (lz ts) M3 := by
      unfold fl
      simp [ix2, ss_cons, ss_nil, s_ret, s_retN, s_ife, s_ex, s_asg, s_par, s_pass, e_and, e_or, e_ite, e_c, e_bi, e_call, e_callK, e_cmp, e_op, e_ix, e_neg, e_tup, e_lst, e_dic0, e_frz, es_cons, es_nil, e_gv, bind_ok, e_not, start_eq, e_var, then_rt, then_nx, end_rt, end_nx, a_name, a_tup, as_nil, as_cons, ofO_some, tst_bl, tst_tup, notR_ok, O2.sem, C2.sem, newL, is_nn, is_in, is_bb, is_tn, eq_ii, eq_ss, gz7, gz8, gz9, gz10, gz11, gz12]
    show run C G _ (fl ns i M.length k c e ts x5 x6) M3 = _
    rw [s_asg, e_op, e_op, e_op, l1, bind_ok, l2, bind_ok]
    simp only [O2.sem, O2.sem.eq_1, a1, ofO_some, bind_ok, c1, a2, c2, a3]
    rfl
  unfold c0_4
  have s1 : run C G (.asg (.name 2) (.call 14 1 [(.var 0), (.var 1)])) [some (.scr ns), some (.int i), x2, x3, x4, x5, x6, none] M = .ok (.nx [some (.scr ns), some (.int i), some (.ref M.length), x3, x4, x5, x6, none]) M1 := by
    simp [e1, ss_cons, ss_nil, s_ret, s_retN, s_ife, s_ex, s_asg, s_par, s_pass, e_and, e_or, e_ite, e_c, e_bi, e_call, e_callK, e_cmp, e_op, e_ix, e_neg, e_tup, e_lst, e_dic0, e_frz, es_cons, es_nil, e_gv, bind_ok, e_not, start_eq, e_var, then_rt, then_nx, end_rt, end_nx, a_name, a_tup, as_nil, as_cons, ofO_some, tst_bl, tst_tup, notR_ok, O2.sem, C2.sem, newL, is_nn, is_in, is_bb, is_tn, eq_ii, eq_ss, gz7, gz8, gz9, gz10, gz11, gz12]
  have s2 : run C G (.asg (.name 3) (.call 15 2 [(.var 2)])) [some (.scr ns), some (.int i), some (.ref M.length), x3, x4, x5, x6, none] M1 = .ok (.nx [some (.scr ns), some (.int i), some (.ref M.length), some (.str k), x4, x5, x6, none]) M2 := by
    simp [e2, ss_cons, ss_nil, s_ret, s_retN, s_ife, s_ex, s_asg, s_par, s_pass, e_and, e_or, e_ite, e_c, e_bi, e_call, e_callK, e_cmp, e_op, e_ix, e_neg, e_tup, e_lst, e_dic0, e_frz, es_cons, es_nil, e_gv, bind_ok, e_not, start_eq, e_var, then_rt, then_nx, end_rt, end_nx, a_name, a_tup, as_nil, as_cons, ofO_some, tst_bl, tst_tup, notR_ok, O2.sem, C2.sem, newL, is_nn, is_in, is_bb, is_tn, eq_ii, eq_ss, gz7, gz8, gz9, gz10, gz11, gz12]
  rw [ss_cons, s1, bind_ok, then_nx, ss_cons, s2, bind_ok, then_nx, ss_cons, s_asg, e3, bind_ok]
  show (Res.ok (Fl.nx [some (.scr ns), some (.int i), some (.ref M.length), some (.str k), some (rm c e ts), x5, x6, none]) M3).bind _ = _
  rw [bind_ok, then_nx, ss_cons, st, bind_ok, then_nx, ss_cons, e5, bind_ok, then_nx, ss_nil]
theorem rm_c {c e : Int} {ts : List Int} (h : (decide (0 ≤ c) && decide (c < 100) && decide (0 ≤ e) && decide (e ≤ 64) && ts.all (fun t => decide (1 ≤ t) && decide (t < 100)) && decide (∀ i, i < ts.length - 1 → ts.getD i 0 < ts.getD (i + 1) 0) && decide (ts.length ≤ 100)) = true) : Rm c e ts := by
  simp only [Bool.and_eq_true, decide_eq_true_eq, List.all_eq_true] at h
  obtain ⟨⟨⟨⟨⟨⟨h1, h2⟩, h3⟩, h4⟩, h5⟩, h6⟩, h7⟩ := h
  have a : (100 : Int) < 2 ^ 40 := by decide +kernel
  have b : (100 : Int) < 2 ^ 100 := by decide +kernel
  exact ⟨h1, by omega, h3, h4, fun t ht => (h5 t ht).1, fun t ht => by have := (h5 t ht).2; omega, fun i hi => h6 i (by omega), h7⟩
theorem law (ns : List Int) (hn : ns.length ≤ 63) (hb : ∀ z ∈ ns, Builtin.Int.intBits z ≤ 1048576) : ∃ M, callZ G code 20 0 [.scr ns] [] = .ok (.bl true) M := by
  have L : LC (callZ G code 19) := lc 9
  have cl1 : Cl "over" 0 1 [3, 8] 12 := ⟨.inl rfl, rm_c (by decide +kernel), by decide⟩
  have cl2 : Cl "whole" 1 1 [4, 8] 12 := ⟨.inr (.inr rfl), rm_c (by decide +kernel), by decide⟩
  have cl3 : Cl "into" 2 0 [1] 1 := ⟨.inr (.inl rfl), rm_c (by decide +kernel), by decide⟩
  have cl4 : Cl "over" 0 1 [3, 12] 12 := ⟨.inl rfl, rm_c (by decide +kernel), by decide⟩
  have d1 : due "over" 0 1 [3, 8] 12 = [(0, 3), (3, 8), (8, 12)] := by decide +kernel
  have d2 : due "whole" 1 1 [4, 8] 12 = [] := by decide +kernel
  have d3 : due "into" 2 0 [1] 1 = [(0, 1)] := by decide +kernel
  have d4 : due "over" 0 1 [3, 12] 12 = [(0, 3), (3, 12)] := by decide +kernel
  have b1 : ∀ M, callZ G code 19 8 [.str "over", rm 0 1 [3, 8], .int 12] M = .ok (lp [(0, 3), (3, 8), (8, 12)]) M := fun M => by
    have q := barring (d := 13) (M := M) cl1
    rw [d1] at q
    exact q
  have b2 : ∀ M, callZ G code 19 9 [.str "whole", rm 1 1 [4, 8], .int 12] M = .ok .non M := fun M => by
    have q := first_bar (d := 13) (M := M) cl2
    rw [d2] at q
    exact q
  have b3 : ∀ M, callZ G code 19 9 [.str "into", rm 2 0 [1], .int 1] M = .ok (pr (0, 1)) M := fun M => by
    have q := first_bar (d := 13) (M := M) cl3
    rw [d3] at q
    exact q
  have b4 : ∀ M, callZ G code 19 8 [.str "over", rm 0 1 [3, 12], .int 12] M = .ok (lp [(0, 3), (3, 12)]) M := fun M => by
    have q := barring (d := 13) (M := M) cl4
    rw [d4] at q
    exact q
  rw [x_call (c := c0) rfl]
  generalize callZ G code 19 = C at L b1 b2 b3 b4 ⊢
  obtain ⟨η', M', q1, i, x2, x3, x4, x5, x6, hη⟩ := for_all (tg := .name 1) (b := runs C G c0_4) (M := []) (η := [some (.scr ns), none, none, none, none, none, none, none])
    (fun j η M' => ∃ i x2 x3 x4 x5 x6, η = [some (.scr ns), i, x2, x3, x4, x5, x6, none]) (rangeZ 0 5)
    (fun j z η M' hz ⟨i, x2, x3, x4, x5, x6, hη⟩ => by
      have hj := (List.getElem?_eq_some_iff.mp hz).1
      rw [rangeZ_len] at hj
      rw [rangeZ_get _ _ _ hj] at hz
      cases hz
      subst hη
      obtain ⟨n, k, c, e, ts, t, M2, q⟩ := turn0 (C := C) (M := M') (ns := ns) (i := j) L (by omega) (x2 := x2) (x3 := x3) (x4 := x4) (x5 := x5) (x6 := x6)
      have z0 : (0 : Int) + (j : Nat) = (j : Nat) := Int.zero_add _
      refine ⟨[some (.scr ns), some (.int (j : Nat)), x2, x3, x4, x5, x6, none], by rw [z0]; rfl, _, M2, .inl q, _, _, _, _, _, _, rfl⟩) ⟨none, none, none, none, none, none, rfl⟩
  subst hη
  refine ⟨M', ?_⟩
  have src : dens C G [.c (.int 5)] [some (.scr ns), none, none, none, none, none, none, none] [] = .ok [.int 5] [] := by
    simp [ss_cons, ss_nil, s_ret, s_retN, s_ife, s_ex, s_asg, s_par, s_pass, e_and, e_or, e_ite, e_c, e_bi, e_call, e_callK, e_cmp, e_op, e_ix, e_neg, e_tup, e_lst, e_dic0, e_frz, es_cons, es_nil, e_gv, bind_ok, e_not, start_eq, e_var, then_rt, then_nx, end_rt, end_nx, a_name, a_tup, as_nil, as_cons, ofO_some, tst_bl, tst_tup, notR_ok, O2.sem, C2.sem, newL, is_nn, is_in, is_bb, is_tn, eq_ii, eq_ss, gz7, gz8, gz9, gz10, gz11, gz12]
  have it : itemsZ .range1 [.int 5] = some (rangeZ 0 5) := by
    simp only [itemsZ, itRange1]
    rw [if_pos (by decide +kernel)]
    rfl
  have s0 : run C G c0_5 [some (.scr ns), none, none, none, none, none, none, none] [] = .ok (.nx [some (.scr ns), i, x2, x3, x4, x5, x6, none]) M' := by
    unfold c0_5
    rw [s_for, src, bind_ok, it]
    exact q1
  have b1 := b1 M'
  have b2 := b2 M'
  have b3 := b3 M'
  have b4 := b4 M'
  have n1 : sEq true (lp [(0, 3), (3, 8), (8, 12)]) (lp [(0, 3), (3, 8), (8, 12)]) M' = some (.bl false, M') := eq_ps (isPs_lp _) (isPs_lp _) (b := true) ⟨fun _ => rfl, fun _ => rfl⟩
  have n2 : sEq false (lp [(0, 3), (3, 12)]) (lp [(0, 3), (3, 12)]) M' = some (.bl true, M') := eq_ps (isPs_lp _) (isPs_lp _) (b := true) ⟨fun _ => rfl, fun _ => rfl⟩
  have n3 : sEq false (pr (0, 1)) (pr (0, 1)) M' = some (.bl true, M') := by
    rw [eq_data (dat_pr (n := 31) (0, 1)) (dat_pr (n := 31) (0, 1)) rfl rfl (fun _ _ z _ => by cases z), (bool_of (a := PyData.eqv (dp (0, 1)) (dp (0, 1))) (b := true) ((eqv_dp _ _).trans ⟨fun _ => rfl, fun _ => rfl⟩))]
    rfl
  simp only [lp, pr, rm, lz, List.map_cons, List.map_nil] at b1 b2 b3 b4 n1 n2 n3
  have e2 : 2 ≤ sizeLine := by decide
  have e3 : 3 ≤ sizeLine := by decide
  have e1 : 1 ≤ sizeLine := by decide
  rw [c0]
  show endZ (runs C G [_, _, _] [some (.scr ns), none, none, none, none, none, none, none] []) = _
  rw [ss_cons, s0, bind_ok, then_nx]
  simp [b1, b2, b3, b4, n1, n2, n3, e1, e2, e3, ss_cons, ss_nil, s_ret, s_retN, s_ife, s_ex, s_asg, s_par, s_pass, e_and, e_or, e_ite, e_c, e_bi, e_call, e_callK, e_cmp, e_op, e_ix, e_neg, e_tup, e_lst, e_dic0, e_frz, es_cons, es_nil, e_gv, bind_ok, e_not, start_eq, e_var, then_rt, then_nx, end_rt, end_nx, a_name, a_tup, as_nil, as_cons, ofO_some, tst_bl, tst_tup, notR_ok, O2.sem, C2.sem, newL, is_nn, is_in, is_bb, is_tn, eq_ii, eq_ss, gz7, gz8, gz9, gz10, gz11, gz12]
end K15
end
open PySem PySem.W PyProof.Rows
set_option maxRecDepth 100000 in
set_option maxHeartbeats 0 in
theorem PySem.Challenge.cw_supermoves_k15_whole_what_bars_holds : PySem.Challenge.rw_supermoves_k15_whole_what_bars.Holds := by
  w_on; o_law; k_head; (case hw => w_witness2)
  k_fill
  refine ZM.walk_zm (l := PySem.Challenge.rw_supermoves_k15_whole_what_bars) (n := 63) (d := 20) (kl := 0) (x := "script") (G := K15.G) (I := K15.I) (code := K15.code) rfl (by decide) rfl ⟨rfl, by decide, by decide⟩ rfl (fun w h Y => PySem.W.kIn_of Y) ?F K15.law
  case F =>
    intro w mg fa h KX G hmg
    refine' K15.all_mk KX G hmg ?a0 ?l0 ?c0' ?k0 ?a1 ?l1 ?c1' ?k1 ?a2 ?l2 ?c2' ?k2 ?a3 ?l3 ?c3' ?k3 ?a4 ?l4 ?c4' ?k4 ?a5 ?l5 ?c5' ?k5 ?a6 ?l6 ?c6' ?k6 ?a7 ?l7 ?c7' ?k7 ?a8 ?l8 ?c8' ?k8 ?a9 ?l9 ?c9' ?k9 ?a10 ?l10 ?c10' ?k10 ?a11 ?l11 ?c11' ?k11 ?a12 ?l12 ?c12' ?k12 ?a13 ?l13 ?c13' ?k13 ?a14 ?l14 ?c14' ?k14 ?a15 ?l15 ?c15' ?k15 ?a16 ?l16 ?c16' ?k16 ?a17 ?l17 ?c17' ?k17 ?a18 ?l18 ?c18' ?k18 ?a19 ?l19 ?c19' ?k19 ?a20 ?l20 ?c20' ?k20 ?a21 ?l21 ?c21' ?k21 ?a22 ?l22 ?c22' ?k22 ?a23 ?l23 ?c23' ?k23 ?a24 ?l24 ?c24' ?k24 ?a25 ?l25 ?c25' ?k25 ?a26 ?l26 ?c26' ?k26 ?a27 ?l27 ?c27' ?k27 ?a28 ?l28 ?c28' ?k28 ?a29 ?l29 ?c29' ?k29 ?a30 ?l30 ?c30' ?k30 ?z_bool ?z_int ?z_isinstance ?z_len ?z_list ?z_max ?z_range ?z_repr ?z_str ?z_sum ?z_tuple ?ga_KINDS ?gl_KINDS ?gz_KINDS ?gf_KINDS
    (case a0 => k_is)
    (case l0 => k_is)
    (case c0' => k_is)
    (case k0 => k_is)
    (case a1 => k_is)
    (case l1 => k_is)
    (case c1' => k_is)
    (case k1 => k_is)
    (case a2 => k_is)
    (case l2 => k_is)
    (case c2' => k_is)
    (case k2 => k_is)
    (case a3 => k_is)
    (case l3 => k_is)
    (case c3' => k_is)
    (case k3 => k_is)
    (case a4 => k_is)
    (case l4 => k_is)
    (case c4' => k_is)
    (case k4 => k_is)
    (case a5 => k_is)
    (case l5 => k_is)
    (case c5' => k_is)
    (case k5 => k_is)
    (case a6 => k_is)
    (case l6 => k_is)
    (case c6' => k_is)
    (case k6 => k_is)
    (case a7 => k_is)
    (case l7 => k_is)
    (case c7' => k_is)
    (case k7 => k_is)
    (case a8 => k_is)
    (case l8 => k_is)
    (case c8' => k_is)
    (case k8 => k_is)
    (case a9 => k_is)
    (case l9 => k_is)
    (case c9' => k_is)
    (case k9 => k_is)
    (case a10 => k_is)
    (case l10 => k_is)
    (case c10' => k_is)
    (case k10 => k_is)
    (case a11 => k_is)
    (case l11 => k_is)
    (case c11' => k_is)
    (case k11 => k_is)
    (case a12 => k_is)
    (case l12 => k_is)
    (case c12' => k_is)
    (case k12 => k_is)
    (case a13 => k_is)
    (case l13 => k_is)
    (case c13' => k_is)
    (case k13 => k_is)
    (case a14 => k_is)
    (case l14 => k_is)
    (case c14' => k_is)
    (case k14 => k_is)
    (case a15 => k_is)
    (case l15 => k_is)
    (case c15' => k_is)
    (case k15 => k_is)
    (case a16 => k_is)
    (case l16 => k_is)
    (case c16' => k_is)
    (case k16 => k_is)
    (case a17 => k_is)
    (case l17 => k_is)
    (case c17' => k_is)
    (case k17 => k_is)
    (case a18 => k_is)
    (case l18 => k_is)
    (case c18' => k_is)
    (case k18 => k_is)
    (case a19 => k_is)
    (case l19 => k_is)
    (case c19' => k_is)
    (case k19 => k_is)
    (case a20 => k_is)
    (case l20 => k_is)
    (case c20' => k_is)
    (case k20 => k_is)
    (case a21 => k_is)
    (case l21 => k_is)
    (case c21' => k_is)
    (case k21 => k_is)
    (case a22 => k_is)
    (case l22 => k_is)
    (case c22' => k_is)
    (case k22 => k_is)
    (case a23 => k_is)
    (case l23 => k_is)
    (case c23' => k_is)
    (case k23 => k_is)
    (case a24 => k_is)
    (case l24 => k_is)
    (case c24' => k_is)
    (case k24 => k_is)
    (case a25 => k_is)
    (case l25 => k_is)
    (case c25' => k_is)
    (case k25 => k_is)
    (case a26 => k_is)
    (case l26 => k_is)
    (case c26' => k_is)
    (case k26 => k_is)
    (case a27 => k_is)
    (case l27 => k_is)
    (case c27' => k_is)
    (case k27 => k_is)
    (case a28 => k_is)
    (case l28 => k_is)
    (case c28' => k_is)
    (case k28 => k_is)
    (case a29 => k_is)
    (case l29 => k_is)
    (case c29' => k_is)
    (case k29 => k_is)
    (case a30 => k_is)
    (case l30 => k_is)
    (case c30' => k_is)
    (case k30 => k_is)
    (case z_bool => k_is)
    (case z_int => k_is)
    (case z_isinstance => k_is)
    (case z_len => k_is)
    (case z_list => k_is)
    (case z_max => k_is)
    (case z_range => k_is)
    (case z_repr => k_is)
    (case z_str => k_is)
    (case z_sum => k_is)
    (case z_tuple => k_is)
    (case ga_KINDS => k_is)
    (case gl_KINDS => k_is)
    (case gz_KINDS => decide)
    (case gf_KINDS => decide +kernel)

