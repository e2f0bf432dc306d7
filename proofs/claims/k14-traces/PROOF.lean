import PyProof.Rows.All
import Wide.All
import OpenK.AllK
import Wide.FinOn
import HandS.ForMost
import HandS.ForExc
import HandS.Walk
import HandS.Lambda
import HandS.SortKw
import HandS.IsInst
import HandS.Property
import HandS.TupAny
import HandS.Wide
import HandS.Deep
import HandS.SortInts
import HandS.Flow
import HandS.More
import KE.KMathGC
import HandS.Gcd
import KE.KTupSum
import HandS.Defaults
import HandS.ExcCtx
import KE.KDictDisplayH
import KE.KDictCopyH
import KE.GoesMore
import HandS.Star
import KE.KStateDown
import Lean
import HandS.Ends
import HandS.Head0
import HandS.Head1
import HandS.Head2
import HandS.HeadEnd
import HandS.HeadHook1
import HandS.HeadHook2
import HandS.HeadNt
import HandS.ExcInit
import HandS.Nested
import KE.KExcSuper
import HandS.HotCalls
import HandS.ExcIs
import HandS.ExcField
import HandS.ExcInitHot
import HandS.DictSubView
import HandS.DictTup
import HandS.Conv
import HandS.ExcValue
import HandS.HeadWalk
import HandS.NestedK
import HandS.Head3
import PySem.Challenge.RW_spinspans_k14_traces_beside_power_sums
set_option Elab.async false
/-! part Pf0 -/
set_option Elab.async false
set_option linter.all false
set_option maxRecDepth 100000
/-! Pf0: data trees, how the heap bears them, the state of a body, readings of expressions by plain functions. -/
namespace Pf
open PySem L2

/-- plain data -/
inductive D where
  | non | bl (b : Bool) | int (i : Int) | str (s : Str)
  | tup (xs : List D) | lst (xs : List D)
  /-- a list, a tuple that is only read: the script, a module's constant -/
  | rol (xs : List D) | rot (xs : List D)
  | dK (kvs : List (Key × D)) | dT (kvs : List (List Key × D))
  | ins (c : Nat) (vs : List D)
  /-- the exception that is handled -/
  | exc (c : Nat) (vs : List D)
  /-- a lambda that is handed on -/
  | lam

/-- own classes: where they stand, their fields in the order in which they are stored -/
structure Tab where
  C : Nat → Addr
  L : Nat → List Str
  /-- the exception that is handled: its object, its dict, its class -/
  hx : Option (Addr × Addr × Nat) := none
  /-- the lambda that is handed on -/
  lf : Option Addr := none
  /-- what is kept for it -/
  lg : Hp → Prop := fun _ => True
  lm : ∀ G G' : Hp, (∀ a o, G a = some o → G' a = some o) → lg G → lg G' := by intros; trivial
  /-- the tables of code objects -/
  tb : List (Addr × Str) := []

mutual
def Rep (K : PySem.W.Frag) (T : Tab) (G : Hp) : D → V → Prop
  | .non, v => v = .non
  | .bl b, v => v = .bl b
  | .int i, v => v = .int i
  | .str s, v => v = .str s
  | .tup ds, v => ∃ p vs, v = .ref p ∧ G p = some (.tup vs) ∧ RepL K T G ds vs
  | .lst ds, v => ∃ p vs, v = .ref p ∧ G p = some (.lst vs) ∧ RepL K T G ds vs
  | .rol ds, v => ∃ p vs, v = .ref p ∧ SqL K G p vs ∧ RepL K T G ds vs
  | .rot ds, v => ∃ p vs, v = .ref p ∧ SqT K G p vs ∧ RepL K T G ds vs
  | .dK kvs, v => ∃ p vs, v = .ref p ∧ G p = some (.dK vs) ∧ RepP K T G kvs vs
  | .dT kvs, v => ∃ p vs, v = .ref p ∧ G p = some (.dT vs) ∧ RepQ K T G kvs vs
  | .ins c ds, v => ∃ p dx vs, v = .ref p ∧ G p = some (.ins (T.C c) dx ((T.L c).zip vs)) ∧ vs.length ≤ (T.L c).length ∧ RepL K T G ds vs
  | .exc c ds, v => ∃ p dx vs, v = .ref p ∧ T.hx = some (p, dx, c) ∧ G dx = some (.xd ((T.L c).zip vs)) ∧ vs.length = (T.L c).length ∧ RepL K T G ds vs
  | .lam, v => ∃ p, v = .ref p ∧ T.lf = some p ∧ T.lg G
def RepL (K : PySem.W.Frag) (T : Tab) (G : Hp) : List D → List V → Prop
  | [], vs => vs = []
  | d :: ds, vs => ∃ v r, vs = v :: r ∧ Rep K T G d v ∧ RepL K T G ds r
def RepP (K : PySem.W.Frag) (T : Tab) (G : Hp) : List (Key × D) → List (Key × V) → Prop
  | [], vs => vs = []
  | (k, d) :: ds, vs => ∃ v r, vs = (k, v) :: r ∧ Rep K T G d v ∧ RepP K T G ds r
def RepQ (K : PySem.W.Frag) (T : Tab) (G : Hp) : List (List Key × D) → List (List Key × V) → Prop
  | [], vs => vs = []
  | (k, d) :: ds, vs => ∃ v r, vs = (k, v) :: r ∧ Rep K T G d v ∧ RepQ K T G ds r
end

def Ex (G G' : Hp) : Prop := ∀ a o, G a = some o → G' a = some o
theorem Ex.refl (G : Hp) : Ex G G := fun _ _ h => h
theorem Ex.trans {G G1 G2 : Hp} (a : Ex G G1) (b : Ex G1 G2) : Ex G G2 := fun x o h => b x o (a x o h)
theorem Ex.new {G : Hp} {p : Addr} {o : HO} (h : G p = none) : Ex G (upd G p o) := fun a u e => by
  rw [upd_ne (ne_of_none e h)]; exact e
/-- things that are no one's own: tuples, code objects -/
def isTp : HO → Bool
  | .tup _ => true | .ext _ => true | _ => false
def isDc : HO → Bool
  | .dK _ => true | .dT _ => true | _ => false
def isTb : HO → Bool
  | .tbl _ => true | _ => false
/-- a table of code objects; what is kept at its place tells its name -/
def mkT (q : Str) : HO := .tbl #[.str q 0]
def TbAt (H : Hp) (a : Addr) (o : HO) : Prop := ∃ q, o = mkT q ∧ LamX.TabS H a q
theorem TbAt.tt {H : Hp} {a : Addr} {o : HO} (t : TbAt H a o) : isTb o = true := by obtain ⟨q, rfl, _⟩ := t; rfl
theorem TbAt.tbl {H : Hp} {a : Addr} {o : HO} (t : TbAt H a o) : ∃ ps, H a = some (.tbl ps) := by obtain ⟨q, _, ps, h, _⟩ := t; exact ⟨ps, h⟩
theorem TbAt.ext {H H' : Hp} {a : Addr} {o : HO} (t : TbAt H a o) (e : ∀ b o, H b = some o → H' b = some o) : TbAt H' a o := by obtain ⟨q, h, t⟩ := t; exact ⟨q, h, t.ext e⟩
theorem mkT_inj {q q' : Str} (h : mkT q = mkT q') : q = q' := by unfold mkT at h; injection h with h; injection h with h; injection h with h; injection h
/-- an object changes that is no table, no code object -/
theorem TbAt.set {H : Hp} {a p : Addr} {o u u' : HO} (t : TbAt H a o) (hu : H p = some u) (n1 : isTb u = false) (n2 : ∀ φ, u ≠ .ext φ) : TbAt (upd H p u') a o := by
  obtain ⟨q, h, ps, h1, h2, h3⟩ := t
  refine ⟨q, h, ps, ?_, h2, fun pos cv hc => ?_⟩
  · rw [upd_ne (fun z => by subst z; rw [hu] at h1; cases h1; cases n1)]; exact h1
  · obtain ⟨c, e, hc'⟩ := h3 pos cv hc
    exact ⟨c, e, by rw [upd_ne (fun z => by subst z; rw [hu] at hc'; cases hc'; exact n2 _ rfl)]; exact hc'⟩
/-- what is kept stands in the heap, a dict perhaps locked -/
def Exr (G H : Hp) : Prop := ∀ a o, G a = some o → (isTb o = false ∧ H a = some o) ∨ (isDc o = true ∧ ∃ ob, H a = some (.frz ob o)) ∨ TbAt H a o
theorem Exr.ne {G H : Hp} (e : Exr G H) {p : Addr} (h : H p = none) : G p = none := by
  cases q : G p with
  | none => rfl
  | some o =>
    rcases e p o q with ⟨_, z⟩ | ⟨_, ob, z⟩ | z
    · rw [h] at z; cases z
    · rw [h] at z; cases z
    · obtain ⟨ps, z⟩ := z.tbl; rw [h] at z; cases z
theorem Exr.tb {G H : Hp} (e : Exr G H) {p : Addr} {q : Str} (h : G p = some (mkT q)) : LamX.TabS H p q := by
  rcases e p _ h with ⟨z, _⟩ | ⟨z, _⟩ | ⟨q', h1, h2⟩
  · cases z
  · cases z
  · rw [mkT_inj h1]; exact h2
theorem Exr.rd {G H : Hp} (e : Exr G H) {p : Addr} {o : HO} (h : Rd G p o) (n : isTb o = false := by rfl) : Rd H p o := by
  rcases h with h | ⟨ob, h⟩
  · rcases e p o h with ⟨_, z⟩ | ⟨_, z⟩ | z
    · exact .inl z
    · exact .inr z
    · rw [z.tt] at n; cases n
  · rcases e p _ h with ⟨_, z⟩ | ⟨z, _⟩ | z
    · exact .inr ⟨ob, z⟩
    · cases z
    · have := z.tt; cases this
theorem Exr.l {K : PySem.W.Frag} {G H : Hp} (e : Exr G H) {p : Addr} {xs : List V} (h : SqL K G p xs) : SqL K H p xs := by
  rcases h with h | h
  · exact .inl (e.rd h)
  · exact .inr h
theorem Exr.t {K : PySem.W.Frag} {G H : Hp} (e : Exr G H) {p : Addr} {xs : List V} (h : SqT K G p xs) : SqT K H p xs := by
  rcases h with h | h
  · exact .inl (e.rd h)
  · exact .inr h
theorem Ex.exr {G G' H : Hp} (a : Ex G G') (b : Exr G' H) : Exr G H := fun x o h => b x o (a x o h)
theorem Ex.rd {G H : Hp} (e : Ex G H) {p : Addr} {o : HO} (h : Rd G p o) : Rd H p o := by
  rcases h with h | ⟨ob, h⟩
  · exact .inl (e p o h)
  · exact .inr ⟨ob, e p _ h⟩
theorem Ex.l {K : PySem.W.Frag} {G H : Hp} (e : Ex G H) {p : Addr} {xs : List V} (h : SqL K G p xs) : SqL K H p xs := by
  rcases h with h | h
  · exact .inl (e.rd h)
  · exact .inr h
theorem Ex.t {K : PySem.W.Frag} {G H : Hp} (e : Ex G H) {p : Addr} {xs : List V} (h : SqT K G p xs) : SqT K H p xs := by
  rcases h with h | h
  · exact .inl (e.rd h)
  · exact .inr h

section
variable {K : PySem.W.Frag} {T : Tab} {G G' H H' : Hp}
mutual
theorem Rep.mono (e : Ex G G') : ∀ {d : D} {v : V}, Rep K T G d v → Rep K T G' d v
  | .non, _, h => h
  | .bl _, _, h => h
  | .int _, _, h => h
  | .str _, _, h => h
  | .tup _, _, ⟨p, vs, h1, h2, h3⟩ => ⟨p, vs, h1, e _ _ h2, RepL.mono e h3⟩
  | .lst _, _, ⟨p, vs, h1, h2, h3⟩ => ⟨p, vs, h1, e _ _ h2, RepL.mono e h3⟩
  | .rol _, _, ⟨p, vs, h1, h2, h3⟩ => ⟨p, vs, h1, e.l h2, RepL.mono e h3⟩
  | .rot _, _, ⟨p, vs, h1, h2, h3⟩ => ⟨p, vs, h1, e.t h2, RepL.mono e h3⟩
  | .dK _, _, ⟨p, vs, h1, h2, h3⟩ => ⟨p, vs, h1, e _ _ h2, RepP.mono e h3⟩
  | .dT _, _, ⟨p, vs, h1, h2, h3⟩ => ⟨p, vs, h1, e _ _ h2, RepQ.mono e h3⟩
  | .ins _ _, _, ⟨p, dx, vs, h1, h2, h3, h4⟩ => ⟨p, dx, vs, h1, e _ _ h2, h3, RepL.mono e h4⟩
  | .exc _ _, _, ⟨p, dx, vs, h1, h2, h3, h4, h5⟩ => ⟨p, dx, vs, h1, h2, e _ _ h3, h4, RepL.mono e h5⟩
  | .lam, _, ⟨p, h1, h2, h3⟩ => ⟨p, h1, h2, T.lm _ _ e h3⟩
theorem RepL.mono (e : Ex G G') : ∀ {ds : List D} {vs : List V}, RepL K T G ds vs → RepL K T G' ds vs
  | [], _, h => h
  | _ :: _, _, ⟨v, r, h1, h2, h3⟩ => ⟨v, r, h1, Rep.mono e h2, RepL.mono e h3⟩
theorem RepP.mono (e : Ex G G') : ∀ {ds : List (Key × D)} {vs : List (Key × V)}, RepP K T G ds vs → RepP K T G' ds vs
  | [], _, h => h
  | (_, _) :: _, _, ⟨v, r, h1, h2, h3⟩ => ⟨v, r, h1, Rep.mono e h2, RepP.mono e h3⟩
theorem RepQ.mono (e : Ex G G') : ∀ {ds : List (List Key × D)} {vs : List (List Key × V)}, RepQ K T G ds vs → RepQ K T G' ds vs
  | [], _, h => h
  | (_, _) :: _, _, ⟨v, r, h1, h2, h3⟩ => ⟨v, r, h1, Rep.mono e h2, RepQ.mono e h3⟩
end
theorem RepL.len : ∀ {ds : List D} {vs : List V}, RepL K T G ds vs → vs.length = ds.length
  | [], _, h => by cases h; rfl
  | _ :: _, _, ⟨v, r, h1, h2, h3⟩ => by subst h1; simp [RepL.len h3]
theorem RepL.get : ∀ {ds : List D} {vs : List V} {i : Nat} {d : D}, RepL K T G ds vs → ds[i]? = some d → ∃ v, vs[i]? = some v ∧ Rep K T G d v
  | [], _, _, _, _, h => by simp at h
  | _ :: _, _, 0, _, ⟨v, r, h1, h2, h3⟩, h => by subst h1; simp at h; subst h; exact ⟨v, rfl, h2⟩
  | _ :: _, _, i + 1, _, ⟨v, r, h1, h2, h3⟩, h => by
    subst h1
    obtain ⟨u, e1, e2⟩ := RepL.get (i := i) h3 (by simpa using h)
    exact ⟨u, by simpa using e1, e2⟩
theorem RepL.getV : ∀ {ds : List D} {vs : List V} {i : Nat} {v : V}, RepL K T G ds vs → vs[i]? = some v → ∃ d, ds[i]? = some d ∧ Rep K T G d v
  | [], _, _, _, h, e => by cases h; simp at e
  | d :: _, _, 0, _, ⟨v, r, h1, h2, h3⟩, h => by subst h1; simp at h; subst h; exact ⟨d, rfl, h2⟩
  | _ :: _, _, i + 1, _, ⟨v, r, h1, h2, h3⟩, h => by
    subst h1
    obtain ⟨u, e1, e2⟩ := RepL.getV (i := i) h3 (by simpa using h)
    exact ⟨u, by simpa using e1, e2⟩
theorem RepL.append : ∀ {ds : List D} {vs : List V} {es : List D} {us : List V}, RepL K T G ds vs → RepL K T G es us → RepL K T G (ds ++ es) (vs ++ us)
  | [], _, _, _, h, k => by cases h; exact k
  | _ :: _, _, _, _, ⟨v, r, h1, h2, h3⟩, k => by subst h1; exact ⟨v, _, rfl, h2, RepL.append h3 k⟩
theorem RepL.one {d : D} {v : V} (h : Rep K T G d v) : RepL K T G [d] [v] := ⟨v, [], rfl, h, rfl⟩
theorem RepL.set : ∀ {ds : List D} {vs : List V} {d : D} {v : V} (i : Nat), RepL K T G ds vs → Rep K T G d v → RepL K T G (ds.set i d) (vs.set i v)
  | [], _, _, _, _, h, _ => by cases h; rfl
  | _ :: _, _, _, _, 0, ⟨v, r, h1, h2, h3⟩, k => by subst h1; exact ⟨_, r, rfl, k, h3⟩
  | _ :: _, _, _, _, i + 1, ⟨v, r, h1, h2, h3⟩, k => by subst h1; exact ⟨v, _, rfl, h2, RepL.set i h3 k⟩
theorem RepL.take : ∀ {ds : List D} {vs : List V} (n : Nat), RepL K T G ds vs → RepL K T G (ds.take n) (vs.take n)
  | _, _, 0, _ => by simp [RepL]
  | [], _, n + 1, h => by cases h; simp [RepL]
  | _ :: _, _, n + 1, ⟨v, r, h1, h2, h3⟩ => by subst h1; exact ⟨v, _, rfl, h2, RepL.take n h3⟩
theorem RepL.drop : ∀ {ds : List D} {vs : List V} (n : Nat), RepL K T G ds vs → RepL K T G (ds.drop n) (vs.drop n)
  | _, _, 0, h => by simpa using h
  | [], _, n + 1, h => by cases h; simp [RepL]
  | _ :: _, _, n + 1, ⟨v, r, h1, h2, h3⟩ => by subst h1; simpa using RepL.drop n h3
theorem RepL.map {α : Type} {f : α → D} {g : α → V} : ∀ {l : List α}, (∀ a, Rep K T G (f a) (g a)) → RepL K T G (l.map f) (l.map g)
  | [], _ => rfl
  | a :: l, h => ⟨g a, _, rfl, h a, RepL.map h⟩
end

/-! ### the state of a body -/
inductive Fl where
  | fz | ow | bo
  deriving DecidableEq
abbrev Sl := Option (Fl × D)
abbrev Ve := List Sl
/-- an own object that may still change -/
def Own (K : PySem.W.Frag) (T : Tab) (G H : Hp) (p : Addr) : D → Prop
  | .lst ds => ∃ vs, H p = some (.lst vs) ∧ RepL K T G ds vs
  | .dK kvs => ∃ vs, H p = some (.dK vs) ∧ RepP K T G kvs vs
  | .dT kvs => ∃ vs, H p = some (.dT vs) ∧ RepQ K T G kvs vs
  | .ins c ds => ∃ dx vs, H p = some (.ins (T.C c) dx ((T.L c).zip vs)) ∧ vs.length ≤ (T.L c).length ∧ RepL K T G ds vs
  | _ => False
structure Bs where
  T : Tab
  H0 : Hp
  G0 : Hp
  M : Addr → Prop
  /-- what may leave: an exception's data, the slots then -/
  wX : D → Ve → Prop
  mm : ∀ a, M a → H0 a ≠ none
  tb : ∀ p ∈ T.tb, G0 p.1 = some (mkT p.2)
def SlotOk (K : PySem.W.Frag) (B : Bs) (G H : Hp) (fl : Fl) (v : V) (d : D) : Prop :=
  match fl with
  | .fz => Rep K B.T G d v
  | .ow => ∃ p, v = .ref p ∧ Own K B.T G H p d ∧ G p = none ∧ B.H0 p = none
  | .bo => ∃ p, v = .ref p ∧ Own K B.T G H p d ∧ G p = none ∧ B.M p
structure Sim (K : PySem.W.Frag) (B : Bs) (G H : Hp) (σ : L2.St) (ρ : Ve) : Prop where
  ex : Exr G H
  new : ∀ a o, G a = some o → B.G0 a = some o ∨ B.H0 a = none ∨ isTp o = true
  g0 : Ex B.G0 G
  fr : ∀ a o, B.H0 a = some o → isTb o = false → ¬ B.M a → H a = some o
  al : ∀ a, H a = none → B.H0 a = none
  len : σ.length = ρ.length
  sl : ∀ (i : Nat) fl d, ρ[i]? = some (some (fl, d)) → ∃ v, σ[i]? = some (some v) ∧ SlotOk K B G H fl v d
  dis : ∀ (i j : Nat) p f1 d1 f2 d2, ρ[i]? = some (some (f1, d1)) → ρ[j]? = some (some (f2, d2)) → f1 ≠ .fz → f2 ≠ .fz → σ[i]? = some (some (.ref p)) → σ[j]? = some (some (.ref p)) → i = j

section
variable {K : PySem.W.Frag} {B : Bs} {T : Tab} {G G' G'' H H' H'' : Hp} {σ : L2.St} {ρ : Ve} {p : Addr} {d : D} {v : V}
theorem Own.has (h : Own K T G H p d) : ∃ o, H p = some o := by
  cases d with
  | lst ds => obtain ⟨vs, h, _⟩ := h; exact ⟨_, h⟩
  | dK ds => obtain ⟨vs, h, _⟩ := h; exact ⟨_, h⟩
  | dT ds => obtain ⟨vs, h, _⟩ := h; exact ⟨_, h⟩
  | ins c ds => obtain ⟨dx, vs, h, _⟩ := h; exact ⟨_, h⟩
  | _ => exact h.elim
theorem Own.ntb {o : HO} (h : Own K T G H p d) (hp : H p = some o) : isTb o = false := by
  cases d with
  | lst ds => obtain ⟨vs, h, _⟩ := h; rw [hp] at h; obtain rfl := Option.some.inj h; rfl
  | dK ds => obtain ⟨vs, h, _⟩ := h; rw [hp] at h; obtain rfl := Option.some.inj h; rfl
  | dT ds => obtain ⟨vs, h, _⟩ := h; rw [hp] at h; obtain rfl := Option.some.inj h; rfl
  | ins c ds => obtain ⟨dx, vs, h, _⟩ := h; rw [hp] at h; obtain rfl := Option.some.inj h; rfl
  | _ => exact h.elim
theorem Own.nex {o : HO} (h : Own K T G H p d) (hp : H p = some o) : ∀ φ, o ≠ .ext φ := by
  cases d with
  | lst ds => obtain ⟨vs, h, _⟩ := h; rw [hp] at h; obtain rfl := Option.some.inj h; intro φ z; cases z
  | dK ds => obtain ⟨vs, h, _⟩ := h; rw [hp] at h; obtain rfl := Option.some.inj h; intro φ z; cases z
  | dT ds => obtain ⟨vs, h, _⟩ := h; rw [hp] at h; obtain rfl := Option.some.inj h; intro φ z; cases z
  | ins c ds => obtain ⟨dx, vs, h, _⟩ := h; rw [hp] at h; obtain rfl := Option.some.inj h; intro φ z; cases z
  | _ => exact h.elim
theorem Own.ntp {o : HO} (h : Own K T G H p d) (hp : H p = some o) : isTp o = false := by
  cases d with
  | lst ds => obtain ⟨vs, h, _⟩ := h; rw [hp] at h; obtain rfl := Option.some.inj h; rfl
  | dK ds => obtain ⟨vs, h, _⟩ := h; rw [hp] at h; obtain rfl := Option.some.inj h; rfl
  | dT ds => obtain ⟨vs, h, _⟩ := h; rw [hp] at h; obtain rfl := Option.some.inj h; rfl
  | ins c ds => obtain ⟨dx, vs, h, _⟩ := h; rw [hp] at h; obtain rfl := Option.some.inj h; rfl
  | _ => exact h.elim
theorem tp_no {o u : HO} (x : Exr G H) (g : G p = some o) (t : isTp o = true) (h : H p = some u) (n : isTp u = false) : False := by
  rcases x p o g with ⟨_, z⟩ | ⟨z, _⟩ | z
  · rw [h] at z; cases z; rw [t] at n; cases n
  · cases o with
    | tup xs => exact Bool.noConfusion (show false = true from z)
    | ext φ => exact Bool.noConfusion (show false = true from z)
    | _ => exact Bool.noConfusion (show false = true from t)
  · have z := z.tt
    cases o with
    | tup xs => exact Bool.noConfusion (show false = true from z)
    | ext φ => exact Bool.noConfusion (show false = true from z)
    | _ => exact Bool.noConfusion (show false = true from t)
theorem Own.mono (e : Ex G G') (hp : H' p = H p) (h : Own K T G H p d) : Own K T G' H' p d := by
  cases d with
  | lst ds => obtain ⟨vs, h, k⟩ := h; exact ⟨vs, hp.trans h, k.mono e⟩
  | dK ds => obtain ⟨vs, h, k⟩ := h; exact ⟨vs, hp.trans h, k.mono e⟩
  | dT ds => obtain ⟨vs, h, k⟩ := h; exact ⟨vs, hp.trans h, k.mono e⟩
  | ins c ds => obtain ⟨dx, vs, h, z, k⟩ := h; exact ⟨dx, vs, hp.trans h, z, k.mono e⟩
  | _ => exact h.elim
/-- frozen: what stands at p is kept from now on -/
theorem Own.rep (h : Own K T G H p d) (hg : G p = none) : ∃ o, H p = some o ∧ Rep K T (upd G p o) d (.ref p) := by
  cases d with
  | lst ds => obtain ⟨vs, h, k⟩ := h; exact ⟨_, h, p, vs, rfl, upd_same, k.mono (Ex.new hg)⟩
  | dK ds => obtain ⟨vs, h, k⟩ := h; exact ⟨_, h, p, vs, rfl, upd_same, k.mono (Ex.new hg)⟩
  | dT ds => obtain ⟨vs, h, k⟩ := h; exact ⟨_, h, p, vs, rfl, upd_same, k.mono (Ex.new hg)⟩
  | ins c ds => obtain ⟨dx, vs, h, z, k⟩ := h; exact ⟨_, h, p, dx, vs, rfl, upd_same, z, k.mono (Ex.new hg)⟩
  | _ => exact h.elim

/-- the heap grows: nothing that was there changes, what is kept more is new -/
structure Grow (G H G' H' : Hp) : Prop where
  e : Ex G G'
  x : Exr G' H'
  n : ∀ a o, G' a = some o → G a = some o ∨ H a = none ∨ isTp o = true
  f : ∀ a o, H a = some o → isTb o = false → H' a = some o
  m : ∀ a, H' a = none → H a = none
theorem Grow.refl (e : Exr G H) : Grow G H G H := ⟨Ex.refl _, e, fun _ _ h => .inl h, fun _ _ h _ => h, fun _ h => h⟩
theorem Grow.trans (a : Grow G H G' H') (b : Grow G' H' G'' H'') : Grow G H G'' H'' := by
  refine ⟨a.e.trans b.e, b.x, fun x o h => ?_, fun x o h n => b.f x o (a.f x o h n) n, fun x h => a.m x (b.m x h)⟩
  rcases b.n x o h with z | z | z
  · exact a.n x o z
  · exact .inr (.inl (a.m x z))
  · exact .inr (.inr z)
theorem upd_some {o : HO} (h : H p = none) : ∀ a u, H a = some u → upd H p o a = some u := fun a u e => by rw [upd_ne (ne_of_none e h)]; exact e
theorem upd_none {o : HO} {a : Addr} (e : upd H p o a = none) : H a = none := by
  by_cases ha : a = p
  · subst ha; rw [upd_same] at e; cases e
  · rw [upd_ne ha] at e; exact e
theorem Exr.ext (x : Exr G H) (e : ∀ a o, H a = some o → H' a = some o) : Exr G H' := fun a u h => by
  rcases x a u h with ⟨n, z⟩ | ⟨z, ob, q⟩ | z
  · exact .inl ⟨n, e _ _ z⟩
  · exact .inr (.inl ⟨z, ob, e _ _ q⟩)
  · exact .inr (.inr (z.ext e))
theorem Exr.upd {o : HO} (x : Exr G H) (h : H p = none) : Exr G (upd H p o) := x.ext (upd_some h)
/-- a new object, its own still -/
theorem Grow.own {o : HO} (x : Exr G H) (h : H p = none) : Grow G H G (upd H p o) :=
  ⟨Ex.refl _, x.upd h, fun _ _ h => .inl h, fun a u e _ => upd_some h a u e, fun _ e => upd_none e⟩
/-- a new object, kept -/
theorem Grow.keep {o : HO} (x : Exr G H) (h : H p = none) (nt : isTb o = false := by rfl) : Grow G H (upd G p o) (upd H p o) := by
  refine ⟨Ex.new (x.ne h), fun a u e => ?_, fun a u e => ?_, fun a u e _ => upd_some h a u e, fun _ e => upd_none e⟩
  · by_cases ha : a = p
    · subst ha; rw [upd_same] at e ⊢; cases e; exact .inl ⟨nt, rfl⟩
    · rw [upd_ne ha] at e; exact x.upd h a u e
  · by_cases ha : a = p
    · subst ha; exact .inr (.inl h)
    · rw [upd_ne ha] at e; exact .inl e
theorem Sim.grow (S : Sim K B G H σ ρ) (g : Grow G H G' H') : Sim K B G' H' σ ρ where
  ex := g.x
  new := fun a o h => by
    rcases g.n a o h with z | z | z
    · exact S.new a o z
    · exact .inr (.inl (S.al a z))
    · exact .inr (.inr z)
  g0 := S.g0.trans g.e
  fr := fun a o h n m => g.f a o (S.fr a o h n m) n
  al := fun a h => S.al a (g.m a h)
  len := S.len
  sl := fun i fl d h => by
    obtain ⟨v, e, k⟩ := S.sl i fl d h
    refine ⟨v, e, ?_⟩
    have own : ∀ p, Own K B.T G H p d → G p = none → Own K B.T G' H' p d ∧ G' p = none := fun p ho hg => by
      obtain ⟨o, hp⟩ := ho.has
      refine ⟨ho.mono g.e ((g.f p o hp (ho.ntb hp)).trans hp.symm), ?_⟩
      cases q : G' p with
      | none => rfl
      | some u =>
        rcases g.n p u q with z | z | z
        · rw [hg] at z; cases z
        · rw [hp] at z; cases z
        · exact (tp_no g.x q z (g.f p o hp (ho.ntb hp)) (ho.ntp hp)).elim
    cases fl with
    | fz => exact Rep.mono g.e k
    | ow => obtain ⟨p, e1, ho, hg, h0⟩ := k; obtain ⟨a1, a2⟩ := own p ho hg; exact ⟨p, e1, a1, a2, h0⟩
    | bo => obtain ⟨p, e1, ho, hg, h0⟩ := k; obtain ⟨a1, a2⟩ := own p ho hg; exact ⟨p, e1, a1, a2, h0⟩
  dis := S.dis
/-- an own new object is kept from now on -/
theorem Sim.keep (S : Sim K B G H σ ρ) {o : HO} (hp : H p = some o) (nt : isTb o = false) (hg : G p = none) (h0 : B.H0 p = none) (nd : ∀ (j : Nat) f1 d1, ρ[j]? = some (some (f1, d1)) → f1 ≠ .fz → σ[j]? ≠ some (some (.ref p))) : Sim K B (upd G p o) H σ ρ where
  ex := fun a u e => by
    by_cases ha : a = p
    · subst ha; rw [upd_same] at e; cases e; exact .inl ⟨nt, hp⟩
    · rw [upd_ne ha] at e; exact S.ex a u e
  new := fun a u e => by
    by_cases ha : a = p
    · subst ha; exact .inr (.inl h0)
    · rw [upd_ne ha] at e; exact S.new a u e
  g0 := S.g0.trans (Ex.new hg)
  fr := S.fr
  al := S.al
  len := S.len
  sl := fun i fl d h => by
    obtain ⟨v, e, k⟩ := S.sl i fl d h
    refine ⟨v, e, ?_⟩
    cases fl with
    | fz => exact Rep.mono (Ex.new hg) k
    | ow =>
      obtain ⟨q, e1, ho, hq, h0⟩ := k
      have ne : q ≠ p := fun z => nd i _ _ h (by decide) (by rw [e, e1, z])
      exact ⟨q, e1, ho.mono (Ex.new hg) rfl, by rw [upd_ne ne]; exact hq, h0⟩
    | bo =>
      obtain ⟨q, e1, ho, hq, h0⟩ := k
      have ne : q ≠ p := fun z => nd i _ _ h (by decide) (by rw [e, e1, z])
      exact ⟨q, e1, ho.mono (Ex.new hg) rfl, by rw [upd_ne ne]; exact hq, h0⟩
  dis := S.dis
/-- a slot is frozen -/
theorem Sim.freeze (S : Sim K B G H σ ρ) {i : Nat} (h : ρ[i]? = some (some (.ow, d))) : ∃ G' v, Ex G G' ∧ σ[i]? = some (some v) ∧ Sim K B G' H σ (ρ.set i (some (.fz, d))) ∧ Rep K B.T G' d v := by
  obtain ⟨v, e, p, ev, ho, hg, h0⟩ := S.sl i _ _ h
  subst ev
  obtain ⟨o, hp, hr⟩ := ho.rep hg
  have hi : i < ρ.length := (List.getElem?_eq_some_iff.mp h).1
  have S' : Sim K B G H σ (ρ.set i none) := ⟨S.ex, S.new, S.g0, S.fr, S.al, by rw [List.length_set]; exact S.len, fun j fl d' hj => by
    by_cases hij : i = j
    · subst hij; rw [List.getElem?_set_self hi] at hj; cases hj
    · rw [List.getElem?_set_ne hij] at hj; exact S.sl j fl d' hj, fun j k q f1 d1 f2 d2 hj hk n1 n2 s1 s2 => by
    by_cases hij : i = j
    · subst hij; rw [List.getElem?_set_self hi] at hj; cases hj
    · by_cases hik : i = k
      · subst hik; rw [List.getElem?_set_self hi] at hk; cases hk
      · rw [List.getElem?_set_ne hij] at hj; rw [List.getElem?_set_ne hik] at hk; exact S.dis j k q f1 d1 f2 d2 hj hk n1 n2 s1 s2⟩
  have S2 := S'.keep hp (ho.ntb hp) hg h0 (fun j f1 d1 hj n1 sj => by
    by_cases hij : i = j
    · subst hij; rw [List.getElem?_set_self hi] at hj; cases hj
    · rw [List.getElem?_set_ne hij] at hj
      exact hij (S.dis i j p _ _ _ _ h hj (by decide) n1 e sj))
  refine ⟨upd G p o, .ref p, Ex.new hg, e, ⟨S2.ex, S2.new, S2.g0, S2.fr, S2.al, by rw [List.length_set]; exact S.len, fun j fl d' hj => ?_, fun j k q f1 d1 f2 d2 hj hk n1 n2 s1 s2 => ?_⟩, hr⟩
  · by_cases hij : i = j
    · subst hij; rw [List.getElem?_set_self hi] at hj; cases hj; exact ⟨_, e, hr⟩
    · rw [List.getElem?_set_ne hij] at hj
      exact S2.sl j fl d' (by rw [List.getElem?_set_ne hij]; exact hj)
  · by_cases hij : i = j
    · subst hij; rw [List.getElem?_set_self hi] at hj; cases hj; exact absurd rfl n1
    · by_cases hik : i = k
      · subst hik; rw [List.getElem?_set_self hi] at hk; cases hk; exact absurd rfl n2
      · rw [List.getElem?_set_ne hij] at hj; rw [List.getElem?_set_ne hik] at hk; exact S.dis j k q f1 d1 f2 d2 hj hk n1 n2 s1 s2
end

/-! ### what an expression gives -/
inductive ER where
  | ok (fl : Bool) (d : D) (ρ : Ve) | ex (x : D) (ρ : Ve) | no
abbrev EF := Ve → ER
/-- a value: kept, or own and new -/
def ValOk (K : PySem.W.Frag) (B : Bs) (G H : Hp) (σ : L2.St) (ρ : Ve) (fl : Bool) (v : V) (d : D) : Prop :=
  if fl = true then ∃ p, v = .ref p ∧ Own K B.T G H p d ∧ G p = none ∧ B.H0 p = none ∧ ∀ (j : Nat) f1 d1, ρ[j]? = some (some (f1, d1)) → f1 ≠ .fz → σ[j]? ≠ some (some (.ref p))
  else Rep K B.T G d v
def PostE (K : PySem.W.Frag) (B : Bs) (G : Hp) (σ : L2.St) (Q : VK) : ER → Prop
  | .ok fl d ρ => ∀ G' H' v, Ex G G' → Sim K B G' H' σ ρ → ValOk K B G' H' σ ρ fl v d → Q v H'
  | .ex x ρ => B.wX x ρ
  | .no => False
/-- as PostE, the value kept in any case -/
def PostZ (K : PySem.W.Frag) (B : Bs) (G : Hp) (σ : L2.St) (Q : VK) : ER → Prop
  | .ok _ d ρ => ∀ G' H' v, Ex G G' → Sim K B G' H' σ ρ → Rep K B.T G' d v → Q v H'
  | .ex x ρ => B.wX x ρ
  | .no => False
def tF (K : PySem.W.Frag) (B : Bs) (f : EF) : TE := fun σ H Q => ∃ G ρ, Sim K B G H σ ρ ∧ PostE K B G σ Q (f ρ)
section
variable {K : PySem.W.Frag} {B : Bs} {G G' H H' : Hp} {σ : L2.St} {ρ : Ve} {Q : VK} {r : ER}
theorem PostZ.toE (h : PostZ K B G σ Q r) : PostE K B G σ Q r := by
  cases r with
  | ok fl d ρ =>
    intro G' H' v e S k
    cases fl with
    | false => exact h G' H' v e S k
    | true =>
      obtain ⟨p, ev, ho, hg, h0, nd⟩ := k
      subst ev
      obtain ⟨o, hp, hr⟩ := ho.rep hg
      exact h (upd G' p o) H' (.ref p) (e.trans (Ex.new hg)) (S.keep hp (ho.ntb hp) hg h0 nd) hr
  | ex _ _ => exact h
  | no => exact h
theorem PE.imp {X : Cx} {e : Expr} {t t' : TE} (h : PE X e t) (k : ∀ σ H Q, t' σ H Q → t σ H Q) : PE X e t' := ⟨fun pins s σ H Q I q => h.run pins s σ H Q I (k σ H Q q)⟩
theorem PT.imp {X : Cx} {e : Expr} {t t' : TT} (h : PT X e t) (k : ∀ σ H Q, t' σ H Q → t σ H Q) : PT X e t' := ⟨fun pins s σ H Q I q => h.run pins s σ H Q I (k σ H Q q)⟩
end

/-! ### operands: a name as it stands, or a value -/
inductive Opd where
  | v (i : Nat) | e (f : EF)
inductive Hd where
  | sl (i : Nat) | val (d : D)
inductive OR where
  | ok (h : Hd) (ρ : Ve) | ex (x : D) (ρ : Ve) | no
def evO : Opd → Ve → OR
  | .v i, ρ => match ρ[i]? with
    | some (some _) => .ok (.sl i) ρ
    | _ => .no
  | .e f, ρ => match f ρ with
    | .ok _ d ρ' => .ok (.val d) ρ'
    | .ex x ρ' => .ex x ρ'
    | .no => .no
def Hd.get (ρ : Ve) : Hd → Option D
  | .sl i => match ρ[i]? with
    | some (some (_, d)) => some d
    | _ => none
  | .val d => some d
def HdOk (K : PySem.W.Frag) (B : Bs) (G : Hp) (σ : L2.St) (v : V) : Hd → Prop
  | .sl i => σ[i]? = some (some v)
  | .val d => Rep K B.T G d v
def PostO (K : PySem.W.Frag) (B : Bs) (G : Hp) (σ : L2.St) (Q : VK) : OR → Prop
  | .ok h ρ => ∀ G' H' v, Ex G G' → Sim K B G' H' σ ρ → HdOk K B G' σ v h → Q v H'
  | .ex x ρ => B.wX x ρ
  | .no => False
def tO (K : PySem.W.Frag) (B : Bs) : Opd → TE
  | .v i => tVar i
  | .e f => tF K B f
/-- what a container's place tells, kept or own -/
def Cont (K : PySem.W.Frag) (T : Tab) (G H : Hp) (v : V) (d : D) : Prop := Rep K T G d v ∨ ∃ p, v = .ref p ∧ Own K T G H p d
inductive OsR where
  | ok (hs : List Hd) (ρ : Ve) | ex (x : D) (ρ : Ve) | no
def evOs : List Opd → Ve → OsR
  | [], ρ => .ok [] ρ
  | o :: os, ρ => match evO o ρ with
    | .ok h ρ1 => match evOs os ρ1 with
      | .ok hs ρ2 => .ok (h :: hs) ρ2
      | .ex x ρ2 => .ex x ρ2
      | .no => .no
    | .ex x ρ1 => .ex x ρ1
    | .no => .no
def tOs (K : PySem.W.Frag) (B : Bs) : List Opd → TA
  | [] => tNil
  | o :: os => tCons (tO K B o) (tOs K B os)
def HdsOk (K : PySem.W.Frag) (B : Bs) (G : Hp) (σ : L2.St) : List V → List Hd → Prop
  | [], [] => True
  | v :: vs, h :: hs => HdOk K B G σ v h ∧ HdsOk K B G σ vs hs
  | _, _ => False
def PostOs (K : PySem.W.Frag) (B : Bs) (G : Hp) (σ : L2.St) (Q : List V → Hp → Prop) : OsR → Prop
  | .ok hs ρ => ∀ G' H' vs, Ex G G' → Sim K B G' H' σ ρ → HdsOk K B G' σ vs hs → Q vs H'
  | .ex x ρ => B.wX x ρ
  | .no => False
def getAll (ρ : Ve) : List Hd → Option (List D)
  | [] => some []
  | h :: hs => match h.get ρ, getAll ρ hs with
    | some d, some ds => some (d :: ds)
    | _, _ => none
def ContL (K : PySem.W.Frag) (T : Tab) (G H : Hp) : List V → List D → Prop
  | [], [] => True
  | v :: vs, d :: ds => Cont K T G H v d ∧ ContL K T G H vs ds
  | _, _ => False
section
variable {K : PySem.W.Frag} {B : Bs} {T : Tab} {G G' H H' : Hp} {σ : L2.St} {ρ : Ve} {Q : VK} {v : V}
theorem HdOk.mono {h : Hd} (e : Ex G G') (k : HdOk K B G σ v h) : HdOk K B G' σ v h := by
  cases h with
  | sl i => exact k
  | val d => exact Rep.mono e k
theorem HdsOk.mono (e : Ex G G') : ∀ {vs : List V} {hs : List Hd}, HdsOk K B G σ vs hs → HdsOk K B G' σ vs hs
  | [], [], k => k
  | _ :: _, _ :: _, k => ⟨HdOk.mono e k.1, HdsOk.mono e k.2⟩
  | [], _ :: _, k => k.elim
  | _ :: _, [], k => k.elim
theorem tO_run {o : Opd} (S : Sim K B G H σ ρ) (h : PostO K B G σ Q (evO o ρ)) : tO K B o σ H Q := by
  cases o with
  | v i =>
    dsimp only [evO] at h
    split at h
    · rename_i x hx
      obtain ⟨fl, d⟩ := x
      obtain ⟨v, e, _⟩ := S.sl i fl d hx
      exact ⟨v, e, h G H v (Ex.refl _) S e⟩
    · exact h.elim
  | e f =>
    refine ⟨G, ρ, S, PostZ.toE ?_⟩
    dsimp only [evO] at h
    cases q : f ρ with
    | ok fl d ρ1 => rw [q] at h; exact h
    | ex x ρ1 => rw [q] at h; exact h
    | no => rw [q] at h; exact h
theorem tOs_run : ∀ {os : List Opd} {G H : Hp} {ρ : Ve} {Q : List V → Hp → Prop}, Sim K B G H σ ρ → PostOs K B G σ Q (evOs os ρ) → tOs K B os σ H Q
  | [], G, H, ρ, Q, S, h => h G H [] (Ex.refl _) S trivial
  | o :: os, G, H, ρ, Q, S, h => by
    show tO K B o σ H fun x H1 => tOs K B os σ H1 fun xs H2 => Q (x :: xs) H2
    refine tO_run S ?_
    unfold evOs at h
    cases q : evO o ρ with
    | ok h1 ρ1 =>
      rw [q] at h
      intro G1 H1 v e1 S1 k1
      refine tOs_run S1 ?_
      dsimp only at h
      cases q2 : evOs os ρ1 with
      | ok hs ρ2 =>
        rw [q2] at h
        intro G2 H2 vs e2 S2 k2
        exact h G2 H2 (v :: vs) (e1.trans e2) S2 ⟨k1.mono e2, k2⟩
      | ex x ρ2 => rw [q2] at h; exact h
      | no => rw [q2] at h; exact h
    | ex x ρ1 => rw [q] at h; exact h
    | no => rw [q] at h; exact h
theorem Hd.get_ok {h : Hd} {d : D} (S : Sim K B G H σ ρ) (k : HdOk K B G σ v h) (g : h.get ρ = some d) : Cont K B.T G H v d := by
  cases h with
  | sl i =>
    unfold Hd.get at g
    dsimp only at g
    split at g
    · rename_i fl d' hx
      cases g
      obtain ⟨u, e, z⟩ := S.sl i fl d hx
      have k : σ[i]? = some (some v) := k
      rw [e] at k; cases k
      cases fl with
      | fz => exact .inl z
      | ow => obtain ⟨p, e, ho, _⟩ := z; exact .inr ⟨p, e, ho⟩
      | bo => obtain ⟨p, e, ho, _⟩ := z; exact .inr ⟨p, e, ho⟩
    · cases g
  | val d' => cases g; exact .inl k
theorem getAll_ok (S : Sim K B G H σ ρ) : ∀ {hs : List Hd} {vs : List V} {ds : List D}, HdsOk K B G σ vs hs → getAll ρ hs = some ds → ContL K B.T G H vs ds
  | [], [], ds, _, g => by cases g; trivial
  | [], _ :: _, _, k, _ => k.elim
  | _ :: _, [], _, k, _ => k.elim
  | h :: hs, v :: vs, ds, k, g => by
    unfold getAll at g
    split at g
    · rename_i d' ds' h1 h2
      cases g
      exact ⟨Hd.get_ok S k.1 h1, getAll_ok S k.2 h2⟩
    · cases g
/-! what Cont tells -/
theorem Exr.at {p : Addr} {o : HO} (x : Exr G H) (h : G p = some o) (n : isDc o = false) (nt : isTb o = false := by rfl) : H p = some o := by
  rcases x p o h with ⟨_, z⟩ | ⟨z, _⟩ | z
  · exact z
  · rw [n] at z; cases z
  · rw [z.tt] at nt; cases nt
theorem Cont.lst {ds : List D} (x : Exr G H) (c : Cont K T G H v (.lst ds)) : ∃ p vs, v = .ref p ∧ H p = some (.lst vs) ∧ RepL K T G ds vs := by
  rcases c with ⟨p, vs, e, s, r⟩ | ⟨p, e, vs, s, r⟩
  · exact ⟨p, vs, e, x.at s rfl, r⟩
  · exact ⟨p, vs, e, s, r⟩
theorem Cont.tup {ds : List D} (x : Exr G H) (c : Cont K T G H v (.tup ds)) : ∃ p vs, v = .ref p ∧ H p = some (.tup vs) ∧ RepL K T G ds vs := by
  rcases c with ⟨p, vs, e, s, r⟩ | ⟨p, e, h⟩
  · exact ⟨p, vs, e, x.at s rfl, r⟩
  · exact h.elim
theorem Cont.rol {ds : List D} (x : Exr G H) (c : Cont K T G H v (.rol ds)) : ∃ p vs, v = .ref p ∧ SqL K H p vs ∧ RepL K T G ds vs := by
  rcases c with ⟨p, vs, e, s, r⟩ | ⟨p, e, h⟩
  · exact ⟨p, vs, e, x.l s, r⟩
  · exact h.elim
theorem Cont.rot {ds : List D} (x : Exr G H) (c : Cont K T G H v (.rot ds)) : ∃ p vs, v = .ref p ∧ SqT K H p vs ∧ RepL K T G ds vs := by
  rcases c with ⟨p, vs, e, s, r⟩ | ⟨p, e, h⟩
  · exact ⟨p, vs, e, x.t s, r⟩
  · exact h.elim
/-- any list, any tuple -/
theorem Cont.anyL {ds : List D} (x : Exr G H) (c : Cont K T G H v (.lst ds) ∨ Cont K T G H v (.rol ds)) : ∃ p vs, v = .ref p ∧ SqL K H p vs ∧ RepL K T G ds vs := by
  rcases c with c | c
  · obtain ⟨p, vs, e, s, r⟩ := c.lst x; exact ⟨p, vs, e, SqL.of s, r⟩
  · exact c.rol x
theorem Cont.anyT {ds : List D} (x : Exr G H) (c : Cont K T G H v (.tup ds) ∨ Cont K T G H v (.rot ds)) : ∃ p vs, v = .ref p ∧ SqT K H p vs ∧ RepL K T G ds vs := by
  rcases c with c | c
  · obtain ⟨p, vs, e, s, r⟩ := c.tup x; exact ⟨p, vs, e, SqT.of s, r⟩
  · exact c.rot x
theorem Cont.dK {ds : List (Key × D)} (x : Exr G H) (c : Cont K T G H v (.dK ds)) : ∃ p vs, v = .ref p ∧ Rd H p (.dK vs) ∧ RepP K T G ds vs := by
  rcases c with ⟨p, vs, e, s, r⟩ | ⟨p, e, vs, s, r⟩
  · exact ⟨p, vs, e, x.rd (.inl s), r⟩
  · exact ⟨p, vs, e, .inl s, r⟩
theorem Cont.dT {ds : List (List Key × D)} (x : Exr G H) (c : Cont K T G H v (.dT ds)) : ∃ p vs, v = .ref p ∧ Rd H p (.dT vs) ∧ RepQ K T G ds vs := by
  rcases c with ⟨p, vs, e, s, r⟩ | ⟨p, e, vs, s, r⟩
  · exact ⟨p, vs, e, x.rd (.inl s), r⟩
  · exact ⟨p, vs, e, .inl s, r⟩
theorem Cont.ins {c : Nat} {ds : List D} (x : Exr G H) (h : Cont K T G H v (.ins c ds)) : ∃ p dx vs, v = .ref p ∧ H p = some (.ins (T.C c) dx ((T.L c).zip vs)) ∧ vs.length ≤ (T.L c).length ∧ RepL K T G ds vs := by
  rcases h with ⟨p, dx, vs, e, s, l, r⟩ | ⟨p, e, dx, vs, s, l, r⟩
  · exact ⟨p, dx, vs, e, x.at s rfl, l, r⟩
  · exact ⟨p, dx, vs, e, s, l, r⟩
theorem Cont.int {i : Int} (c : Cont K T G H v (.int i)) : v = .int i := by rcases c with c | ⟨_, _, h⟩; exact c; exact h.elim
theorem Cont.bl {i : Bool} (c : Cont K T G H v (.bl i)) : v = .bl i := by rcases c with c | ⟨_, _, h⟩; exact c; exact h.elim
theorem Cont.str {i : Str} (c : Cont K T G H v (.str i)) : v = .str i := by rcases c with c | ⟨_, _, h⟩; exact c; exact h.elim
theorem Cont.non (c : Cont K T G H v .non) : v = .non := by rcases c with c | ⟨_, _, h⟩; exact c; exact h.elim
end

/-! ### primitives: a plain function of the operands' data -/
abbrev Pr := List D → Option (Bool × D)
/-- a primitive's result -/
def NewOk (K : PySem.W.Frag) (T : Tab) (G H G' H' : Hp) (fl : Bool) (v : V) (d : D) : Prop :=
  Grow G H G' H' ∧ (if fl = true then ∃ p, v = .ref p ∧ H p = none ∧ G' p = none ∧ Own K T G' H' p d else Rep K T G' d v)
def fPrim (pr : Pr) (os : List Opd) : EF := fun ρ => match evOs os ρ with
  | .ok hs ρ1 => match getAll ρ1 hs with
    | some ds => match pr ds with
      | some (fl, d) => .ok fl d ρ1
      | none => .no
    | none => .no
  | .ex x ρ1 => .ex x ρ1
  | .no => .no
/-- a primitive does what is told of values -/
def CallV (K : PySem.W.Frag) (T : Tab) (r : List V → Hp → VK → Prop) (pr : Pr) : Prop :=
  ∀ (G H : Hp) (vs : List V) (ds : List D) (fl : Bool) (d : D) (Q : VK), Exr G H → ContL K T G H vs ds → pr ds = some (fl, d) → (∀ G' H' v, NewOk K T G H G' H' fl v d → Q v H') → r vs H Q
section
variable {K : PySem.W.Frag} {B : Bs} {T : Tab} {G G' H H' : Hp} {σ : L2.St} {ρ : Ve} {Q : VK} {v : V}
theorem NewOk.val {fl : Bool} {d : D} (S : Sim K B G H σ ρ) (n : NewOk K B.T G H G' H' fl v d) : ValOk K B G' H' σ ρ fl v d := by
  obtain ⟨g, k⟩ := n
  cases fl with
  | false => exact k
  | true =>
    obtain ⟨p, e, hp, hg, ho⟩ := k
    refine ⟨p, e, ho, hg, S.al p hp, fun j f1 d1 hj n1 sj => ?_⟩
    · obtain ⟨u, e1, z⟩ := S.sl j f1 d1 hj
      rw [sj] at e1; cases e1
      cases f1 with
      | fz => exact n1 rfl
      | ow => obtain ⟨q, eq, ho, _⟩ := z; cases eq; obtain ⟨o, h⟩ := ho.has; rw [hp] at h; cases h
      | bo => obtain ⟨q, eq, ho, _⟩ := z; cases eq; obtain ⟨o, h⟩ := ho.has; rw [hp] at h; cases h
end
end Pf
/-! part Pf1 -/
set_option Elab.async false
set_option linter.all false
set_option maxRecDepth 100000
/-! Pf1: expressions. -/
namespace Pf
open PySem L2
section
variable {X : Cx} {B : Bs} {K : PySem.W.Frag} {T : Tab} {G G' H H' : Hp} {σ : L2.St} {ρ : Ve} {Q : VK} {v : V} {e : Expr} {es : List Expr}

/-! ### names, constants -/
def eVar (i : Nat) : EF := fun ρ => match ρ[i]? with
  | some (some (.fz, d)) => .ok false d ρ
  | some (some (.ow, d)) => .ok false d (ρ.set i (some (.fz, d)))
  | _ => .no
theorem pe_eVar {i : Nat} (h : PE X e (tVar i)) : PE X e (tF X.K B (eVar i)) := PE.imp h fun σ H Q hq => by
  obtain ⟨G, ρ, S, q⟩ := hq
  dsimp only [eVar] at q
  split at q
  · rename_i d hx
    obtain ⟨v, e, k⟩ := S.sl i _ _ hx
    exact ⟨v, e, q G H v (Ex.refl _) S k⟩
  · rename_i d hx
    obtain ⟨G', v, e1, e2, S', k⟩ := S.freeze hx
    exact ⟨v, e2, q G' H v e1 S' k⟩
  · exact q.elim
def eC (d : D) : EF := fun ρ => .ok false d ρ
/-- a constant's value -/
def cV : D → Option V
  | .non => some .non | .bl b => some (.bl b) | .int i => some (.int i) | .str s => some (.str s) | _ => none
theorem pe_eC {d : D} {v : V} (h : PE X e (tC v)) (hd : cV d = some v) : PE X e (tF X.K B (eC d)) := PE.imp h fun σ H Q hq => by
  obtain ⟨G, ρ, S, q⟩ := hq
  refine q G H v (Ex.refl _) S ?_
  cases d <;> cases hd <;> rfl

theorem cV_rep {d : D} {v : V} (h : cV d = some v) : Rep K T G d v := by
  cases d with
  | non => exact (Option.some.inj h).symm
  | bl b => exact (Option.some.inj h).symm
  | int b => exact (Option.some.inj h).symm
  | str b => exact (Option.some.inj h).symm
  | _ => cases h
/-! ### primitives -/
theorem pe_prim {r : List V → Hp → VK → Prop} {pr : Pr} {os : List Opd} (h : PE X e (tCB r (tOs X.K B os))) (hv : CallV X.K B.T r pr) : PE X e (tF X.K B (fPrim pr os)) := PE.imp h fun σ H Q hq => by
  obtain ⟨G, ρ, S, q⟩ := hq
  show tOs X.K B os σ H fun vs H1 => r vs H1 Q
  refine tOs_run S ?_
  dsimp only [fPrim] at q
  cases h1 : evOs os ρ with
  | ok hs ρ1 =>
    rw [h1] at q
    intro G1 H1 vs e1 S1 k1
    dsimp only at q
    cases h2 : getAll ρ1 hs with
    | none => rw [h2] at q; exact q.elim
    | some ds =>
      rw [h2] at q
      dsimp only at q
      cases h3 : pr ds with
      | none => rw [h3] at q; exact q.elim
      | some x =>
        obtain ⟨fl, d⟩ := x
        rw [h3] at q
        exact hv G1 H1 vs ds fl d Q S1.ex (getAll_ok S1 k1 h2) h3 fun G' H' v n => q G' H' v (e1.trans n.1.e) (S1.grow n.1) (n.val S1)
  | ex x ρ1 => rw [h1] at q; exact q
  | no => rw [h1] at q; exact q
/-- the handles of values -/
def vals : List Hd → Option (List D)
  | [] => some []
  | .val d :: hs => match vals hs with
    | some ds => some (d :: ds)
    | none => none
  | .sl _ :: _ => none
theorem vals_ok : ∀ {hs : List Hd} {vs : List V} {ds : List D}, HdsOk K B G σ vs hs → vals hs = some ds → RepL K B.T G ds vs
  | [], [], ds, _, g => by cases g; rfl
  | [], _ :: _, _, k, _ => k.elim
  | _ :: _, [], _, k, _ => k.elim
  | .sl _ :: _, _ :: _, _, _, g => by cases g
  | .val d :: hs, v :: vs, ds, k, g => by
    dsimp only [vals] at g
    cases h : vals hs with
    | none => rw [h] at g; cases g
    | some es =>
      rw [h] at g; cases g
      exact ⟨v, vs, rfl, k.1, vals_ok k.2 h⟩
def fPrimV (pr : Pr) (os : List Opd) : EF := fun ρ => match evOs os ρ with
  | .ok hs ρ1 => match vals hs with
    | some ds => match pr ds with
      | some (fl, d) => .ok fl d ρ1
      | none => .no
    | none => .no
  | .ex x ρ1 => .ex x ρ1
  | .no => .no
def CallW (K : PySem.W.Frag) (T : Tab) (r : List V → Hp → VK → Prop) (pr : Pr) : Prop :=
  ∀ (G H : Hp) (vs : List V) (ds : List D) (fl : Bool) (d : D) (Q : VK), Exr G H → RepL K T G ds vs → pr ds = some (fl, d) → (∀ G' H' v, NewOk K T G H G' H' fl v d → Q v H') → r vs H Q
theorem pe_primV {r : List V → Hp → VK → Prop} {pr : Pr} {os : List Opd} (h : PE X e (tCB r (tOs X.K B os))) (hv : CallW X.K B.T r pr) : PE X e (tF X.K B (fPrimV pr os)) := PE.imp h fun σ H Q hq => by
  obtain ⟨G, ρ, S, q⟩ := hq
  show tOs X.K B os σ H fun vs H1 => r vs H1 Q
  refine tOs_run S ?_
  dsimp only [fPrimV] at q
  cases h1 : evOs os ρ with
  | ok hs ρ1 =>
    rw [h1] at q
    intro G1 H1 vs e1 S1 k1
    dsimp only at q
    cases h2 : vals hs with
    | none => rw [h2] at q; exact q.elim
    | some ds =>
      rw [h2] at q
      dsimp only at q
      cases h3 : pr ds with
      | none => rw [h3] at q; exact q.elim
      | some x =>
        obtain ⟨fl, d⟩ := x
        rw [h3] at q
        exact hv G1 H1 vs ds fl d Q S1.ex (vals_ok k1 h2) h3 fun G' H' v n => q G' H' v (e1.trans n.1.e) (S1.grow n.1) (n.val S1)
  | ex x ρ1 => rw [h1] at q; exact q
  | no => rw [h1] at q; exact q
/-- new objects -/
theorem new_own {o : HO} {p : Addr} {d : D} (x : Exr G H) (h : H p = none) (ho : Own K T G (upd H p o) p d) : NewOk K T G H G (upd H p o) true (.ref p) d :=
  ⟨Grow.own x h, p, rfl, h, x.ne h, ho⟩
theorem new_keep {o : HO} {p : Addr} {d : D} (x : Exr G H) (h : H p = none) (ho : Rep K T (upd G p o) d (.ref p)) (nt : isTb o = false := by rfl) : NewOk K T G H (upd G p o) (upd H p o) false (.ref p) d :=
  ⟨Grow.keep x h nt, ho⟩
theorem new_same {d : D} {v : V} (x : Exr G H) (h : Rep K T G d v) : NewOk K T G H G H false v d := ⟨Grow.refl x, h⟩
theorem new_tup {p : Addr} {ds : List D} {vs : List V} (x : Exr G H) (h : H p = none) (r : RepL K T G ds vs) : NewOk K T G H (upd G p (.tup vs)) (upd H p (.tup vs)) false (.ref p) (.tup ds) :=
  new_keep x h ⟨p, vs, rfl, upd_same, r.mono (Ex.new (x.ne h))⟩
theorem new_lst {p : Addr} {ds : List D} {vs : List V} (x : Exr G H) (h : H p = none) (r : RepL K T G ds vs) : NewOk K T G H G (upd H p (.lst vs)) true (.ref p) (.lst ds) :=
  new_own x h ⟨vs, upd_same, r⟩
theorem sz100 {n : Nat} (h : n ≤ 100000) : n ≤ sizeLine := Nat.le_trans h (by decide)

/-! displays -/
def prTup : Pr := fun ds => if ds.length ≤ 100000 then some (false, .tup ds) else none
def prLst : Pr := fun ds => if ds.length ≤ 100000 then some (true, .lst ds) else none
theorem pe_eTup {os : List Opd} {x1 pos} (h : PA X es (tOs X.K B os)) : PE X (.Tuple es x1 pos) (tF X.K B (fPrimV prTup os)) :=
  pe_primV (r := fun xs H1 Q => xs.length ≤ sizeLine ∧ ∀ p, H1 p = none → Q (.ref p) (upd H1 p (.tup xs))) (pe_tup h) fun G H vs ds fl d Q x r hp k => by
    unfold prTup at hp
    split at hp
    · rename_i hl
      cases hp
      exact ⟨by rw [r.len]; exact sz100 hl, fun p h => k _ _ _ (new_tup x h r)⟩
    · cases hp
theorem pe_eLst {os : List Opd} {pos} (h : PA X es (tOs X.K B os)) : PE X (.List es pos) (tF X.K B (fPrimV prLst os)) :=
  pe_primV (r := fun xs H1 Q => xs.length ≤ sizeLine ∧ ∀ p, H1 p = none → Q (.ref p) (upd H1 p (.lst xs))) (pe_lst h) fun G H vs ds fl d Q x r hp k => by
    unfold prLst at hp
    split at hp
    · rename_i hl
      cases hp
      exact ⟨by rw [r.len]; exact sz100 hl, fun p h => k _ _ _ (new_lst x h r)⟩
    · cases hp

/-! two operands by values -/
def r2of (r : R2) : List V → Hp → VK → Prop := fun vs H Q => match vs with
  | [x, y] => r x y H Q
  | _ => False
theorem pe_bin {r : R2} {pr : Pr} {a b : Opd} (h : PE X e (tOp r (tO X.K B a) (tO X.K B b))) (hv : CallV X.K B.T (r2of r) pr) : PE X e (tF X.K B (fPrim pr [a, b])) :=
  pe_prim (r := r2of r) (os := [a, b]) (show PE X e (tCB (r2of r) (tOs X.K B [a, b])) from h) hv
def r1of (r : V → Hp → VK → Prop) : List V → Hp → VK → Prop := fun vs H Q => match vs with
  | [x] => r x H Q
  | _ => False
theorem pe_un1 {r : V → Hp → VK → Prop} {pr : Pr} {a : Opd} (h : PE X e (tUn r (tO X.K B a))) (hv : CallV X.K B.T (r1of r) pr) : PE X e (tF X.K B (fPrim pr [a])) :=
  pe_prim (r := r1of r) (os := [a]) (show PE X e (tCB (r1of r) (tOs X.K B [a])) from h) hv
theorem OpR.or {f : Value → Value → Sem Value} {r r' : R2} (h : OpR X f r) (h' : OpR X f r') : OpR X f (fun x y H Q => r x y H Q ∨ r' x y H Q) :=
  fun pins s σ H x y v u Q I rx ry q => q.elim (h pins s σ H x y v u Q I rx ry) (h' pins s σ H x y v u Q I rx ry)
theorem ContL.two {vs : List V} {d1 d2 : D} (c : ContL K T G H vs [d1, d2]) : ∃ x y, vs = [x, y] ∧ Cont K T G H x d1 ∧ Cont K T G H y d2 := by
  match vs, c with
  | [x, y], c => exact ⟨x, y, rfl, c.1, c.2.1⟩
  | [], c => exact c.elim
  | [_], c => exact c.2.elim
  | _ :: _ :: _ :: _, c => exact c.2.2.elim
theorem ContL.one {vs : List V} {d1 : D} (c : ContL K T G H vs [d1]) : ∃ x, vs = [x] ∧ Cont K T G H x d1 := by
  match vs, c with
  | [x], c => exact ⟨x, rfl, c.1⟩
  | [], c => exact c.elim
  | _ :: _ :: _, c => exact c.2.elim

/-! ### operators -/
/-- + -/
def prAdd : Pr
  | [.int i, .int j] => some (false, .int (i + j))
  | [.str a, .str b] => if a.length + b.length ≤ 100000 then some (false, .str (a ++ b)) else none
  | [.tup a, .tup b] => if a.length + b.length ≤ 100000 then some (false, .tup (a ++ b)) else none
  | [.lst a, .lst b] => if a.length + b.length ≤ 100000 then some (true, .lst (a ++ b)) else none
  | _ => none
theorem op_plus : OpR X (binaryOp .Add) (fun x y H Q => rI0 (fun i j => .int (i + j)) x y H Q ∨ (∃ i j, x = .str i ∧ y = .str j ∧ i.length + j.length ≤ sizeLine ∧ Q (.str (i ++ j)) H) ∨ rCatA X.K x y H Q ∨ rCat x y H Q) :=
  op_add.or (OpR.or op_add_str (OpR.or op_catA op_cat))
theorem cv_plus : CallV K T (r2of fun x y H Q => rI0 (fun i j => .int (i + j)) x y H Q ∨ (∃ i j, x = .str i ∧ y = .str j ∧ i.length + j.length ≤ sizeLine ∧ Q (.str (i ++ j)) H) ∨ rCatA K x y H Q ∨ rCat x y H Q) prAdd := fun G H vs ds fl d Q x c hp k => by
  unfold prAdd at hp
  split at hp
  · obtain ⟨u, w, rfl, c1, c2⟩ := c.two
    cases hp
    exact .inl ⟨_, _, c1.int, c2.int, k _ _ _ (new_same x rfl)⟩
  · obtain ⟨u, w, rfl, c1, c2⟩ := c.two
    split at hp
    · rename_i hl
      cases hp
      exact .inr (.inl ⟨_, _, c1.str, c2.str, sz100 hl, k _ _ _ (new_same x rfl)⟩)
    · cases hp
  · obtain ⟨u, w, rfl, c1, c2⟩ := c.two
    split at hp
    · rename_i a b hl
      cases hp
      obtain ⟨p, xs, e1, s1, r1⟩ := c1.tup x
      obtain ⟨q, ys, e2, s2, r2⟩ := c2.tup x
      have rr := r1.append r2
      refine .inr (.inr (.inl ⟨p, q, xs, ys, e1, e2, SqT.of s1, SqT.of s2, by rw [r1.len, r2.len]; exact sz100 hl, fun z => ?_, fun _ z => ?_, fun _ _ t h => k _ _ _ (new_tup x h rr)⟩))
      · subst z
        have ea : a = [] := List.eq_nil_of_length_eq_zero (by rw [← r1.len]; rfl)
        subst ea
        subst e2
        rcases c2 with c2 | ⟨_, _, c2⟩
        · exact k _ _ _ (new_same x c2)
        · exact c2.elim
      · subst z
        have eb : b = [] := List.eq_nil_of_length_eq_zero (by rw [← r2.len]; rfl)
        subst eb
        subst e1
        rw [List.append_nil] at k
        rcases c1 with c1 | ⟨_, _, c1⟩
        · exact k _ _ _ (new_same x c1)
        · exact c1.elim
    · cases hp
  · obtain ⟨u, w, rfl, c1, c2⟩ := c.two
    split at hp
    · rename_i a b hl
      cases hp
      obtain ⟨p, xs, e1, s1, r1⟩ := c1.lst x
      obtain ⟨q, ys, e2, s2, r2⟩ := c2.lst x
      exact .inr (.inr (.inr ⟨p, q, xs, ys, e1, e2, s1, s2, by rw [r1.len, r2.len]; exact sz100 hl, fun t h => k _ _ _ (new_lst x h (r1.append r2))⟩))
    · cases hp
  · cases hp
theorem pe_add {a b : Expr} {oa ob : Opd} {pos} (ha : PE X a (tO X.K B oa)) (hb : PE X b (tO X.K B ob)) : PE X (.BinOp a .Add b pos) (tF X.K B (fPrim prAdd [oa, ob])) := pe_bin (pe_op op_plus ha hb) cv_plus
/-- two ints -/
def prI (c : Int → Int → Bool) (f : Int → Int → D) : Pr
  | [.int i, .int j] => if c i j = true then some (false, f i j) else none
  | _ => none
theorem cv_I {c : Int → Int → Bool} {C : Int → Int → Prop} {f : Int → Int → D} {g : Int → Int → V} (hc : ∀ i j, c i j = true → C i j) (hf : ∀ i j, cV (f i j) = some (g i j)) : CallV K T (r2of (rI C g)) (prI c f) := fun G H vs ds fl d Q x k0 hp k => by
  unfold prI at hp
  split at hp
  · rename_i i j
    obtain ⟨u, w, rfl, c1, c2⟩ := k0.two
    split at hp
    · rename_i hz
      cases hp
      exact ⟨i, j, c1.int, c2.int, hc i j hz, k _ _ _ (new_same x (cV_rep (hf i j)))⟩
    · cases hp
  · cases hp
theorem opI_tt {f : Value → Value → Sem Value} {g : Int → Int → V} (h : OpR X f (rI0 g)) : OpR X f (rI (fun _ _ => True) g) := fun pins s σ H x y v u Q I rx ry q => by
  obtain ⟨i, j, e1, e2, _, q⟩ := q
  exact h pins s σ H x y v u Q I rx ry ⟨i, j, e1, e2, q⟩
def prSub : Pr := prI (fun _ _ => true) fun i j => .int (i - j)
theorem pe_sub {a b : Expr} {oa ob : Opd} {pos} (ha : PE X a (tO X.K B oa)) (hb : PE X b (tO X.K B ob)) : PE X (.BinOp a .Sub b pos) (tF X.K B (fPrim prSub [oa, ob])) :=
  pe_bin (pe_op (opI_tt op_sub) ha hb) (cv_I (fun _ _ _ => trivial) fun _ _ => rfl)
def okMul (i j : Int) : Bool := decide (i.natAbs.log2 + j.natAbs.log2 < 1000000)
def prMul : Pr := prI okMul fun i j => .int (i * j)
theorem pe_mul {a b : Expr} {oa ob : Opd} {pos} (ha : PE X a (tO X.K B oa)) (hb : PE X b (tO X.K B ob)) : PE X (.BinOp a .Mult b pos) (tF X.K B (fPrim prMul [oa, ob])) :=
  pe_bin (pe_op op_mulW ha hb) (cv_I (fun i j h => of_decide_eq_true (p := i.natAbs.log2 + j.natAbs.log2 < 1000000) h) fun _ _ => rfl)
def okDiv (_ j : Int) : Bool := decide (0 < j) && decide (j.natAbs.log2 < 9000)
def prDiv : Pr := prI okDiv fun i j => .int (i / j)
theorem pe_div {a b : Expr} {oa ob : Opd} {pos} (ha : PE X a (tO X.K B oa)) (hb : PE X b (tO X.K B ob)) : PE X (.BinOp a .FloorDiv b pos) (tF X.K B (fPrim prDiv [oa, ob])) :=
  pe_bin (pe_op op_fdivW ha hb) (cv_I (fun _ j h => by
    unfold okDiv at h
    rw [Bool.and_eq_true, decide_eq_true_eq, decide_eq_true_eq] at h
    exact h) fun _ _ => rfl)
def okMod (_ j : Int) : Bool := decide (0 < j)
def prMod : Pr := prI okMod fun i j => .int (i % j)
theorem pe_mod {a b : Expr} {oa ob : Opd} {pos} (ha : PE X a (tO X.K B oa)) (hb : PE X b (tO X.K B ob)) : PE X (.BinOp a .Mod b pos) (tF X.K B (fPrim prMod [oa, ob])) :=
  pe_bin (pe_op op_mod ha hb) (cv_I (fun _ _ h => of_decide_eq_true h) fun _ _ => rfl)
def okPow (i j : Int) : Bool := decide (0 ≤ j) && decide (j ≤ 1000000) && decide (i.natAbs < 2 ^ 64)
def prPow : Pr := prI okPow fun i j => .int (i ^ j.toNat)
theorem pe_pow {a b : Expr} {oa ob : Opd} {pos} (ha : PE X a (tO X.K B oa)) (hb : PE X b (tO X.K B ob)) : PE X (.BinOp a .Pow b pos) (tF X.K B (fPrim prPow [oa, ob])) :=
  pe_bin (pe_op op_pow ha hb) (cv_I (fun _ j h => by
    unfold okPow at h
    simp only [Bool.and_eq_true, decide_eq_true_eq] at h
    exact ⟨h.1.1, h.1.2, h.2⟩) fun _ _ => rfl)
def prLt : Pr := prI (fun _ _ => true) fun i j => .bl (decide (i < j))
def prLe : Pr := prI (fun _ _ => true) fun i j => .bl (decide (i ≤ j))
def prGt : Pr := prI (fun _ _ => true) fun i j => .bl (decide (j < i))
def prGe : Pr := prI (fun _ _ => true) fun i j => .bl (decide (j ≤ i))
theorem pe_lt {a b : Expr} {oa ob : Opd} {pos} (ha : PE X a (tO X.K B oa)) (hb : PE X b (tO X.K B ob)) : PE X (.Compare a [.Lt] [b] pos) (tF X.K B (fPrim prLt [oa, ob])) := pe_bin (pe_cmpR (opI_tt op_lt) ha hb (nomark _)) (cv_I (fun _ _ _ => trivial) fun _ _ => rfl)
theorem pe_le {a b : Expr} {oa ob : Opd} {pos} (ha : PE X a (tO X.K B oa)) (hb : PE X b (tO X.K B ob)) : PE X (.Compare a [.LtE] [b] pos) (tF X.K B (fPrim prLe [oa, ob])) := pe_bin (pe_cmpR (opI_tt op_le) ha hb (nomark _)) (cv_I (fun _ _ _ => trivial) fun _ _ => rfl)
theorem pe_gt {a b : Expr} {oa ob : Opd} {pos} (ha : PE X a (tO X.K B oa)) (hb : PE X b (tO X.K B ob)) : PE X (.Compare a [.Gt] [b] pos) (tF X.K B (fPrim prGt [oa, ob])) := pe_bin (pe_cmpR (opI_tt op_gt) ha hb (nomark _)) (cv_I (fun _ _ _ => trivial) fun _ _ => rfl)
theorem pe_ge {a b : Expr} {oa ob : Opd} {pos} (ha : PE X a (tO X.K B oa)) (hb : PE X b (tO X.K B ob)) : PE X (.Compare a [.GtE] [b] pos) (tF X.K B (fPrim prGe [oa, ob])) := pe_bin (pe_cmpR (opI_tt op_ge) ha hb (nomark _)) (cv_I (fun _ _ _ => trivial) fun _ _ => rfl)
def prNeg : Pr
  | [.int i] => some (false, .int (-i))
  | _ => none
theorem pe_neg {a : Expr} {oa : Opd} {pos} (ha : PE X a (tO X.K B oa)) : PE X (.UnaryOp .USub a pos) (tF X.K B (fPrim prNeg [oa])) := pe_un1 (pe_un un_neg ha) fun G H vs ds fl d Q x c hp k => by
  unfold prNeg at hp
  split at hp
  · obtain ⟨u, rfl, c1⟩ := c.one
    cases hp
    exact ⟨_, c1.int, k _ _ _ (new_same x rfl)⟩
  · cases hp

/-! ### one construct, several kinds of operands -/
def prOr (p q : Pr) : Pr := fun ds => match p ds with
  | some x => some x
  | none => q ds
theorem PE.or {t t' : TE} (h : PE X e t) (h' : PE X e t') : PE X e (fun σ H Q => t σ H Q ∨ t' σ H Q) :=
  ⟨fun pins s σ H Q I q => q.elim (h.run pins s σ H Q I) (h'.run pins s σ H Q I)⟩
theorem pe_or2 {p q : Pr} {os : List Opd} (h : PE X e (tF X.K B (fPrim p os))) (h' : PE X e (tF X.K B (fPrim q os))) : PE X e (tF X.K B (fPrim (prOr p q) os)) := PE.imp (PE.or h h') fun σ H Q hq => by
  obtain ⟨G, ρ, S, z⟩ := hq
  cases h1 : evOs os ρ with
  | ok hs ρ1 =>
    cases h2 : getAll ρ1 hs with
    | none => simp only [fPrim, h1, h2] at z; exact z.elim
    | some ds =>
      cases h3 : p ds with
      | some y => exact .inl ⟨G, ρ, S, by simp only [fPrim, h1, h2, prOr, h3] at z ⊢; exact z⟩
      | none => exact .inr ⟨G, ρ, S, by simp only [fPrim, h1, h2, prOr, h3] at z ⊢; exact z⟩
  | ex y ρ1 => exact .inl ⟨G, ρ, S, by simp only [fPrim, h1] at z ⊢; exact z⟩
  | no => simp only [fPrim, h1] at z; exact z.elim

/-! ### equality -/
mutual
def pyOf : D → Option PyData
  | .non => some .none
  | .bl b => some (.bool b)
  | .int i => some (.int i)
  | .str s => some (.str s)
  | .lst ds => match pyOfL ds with | some l => some (.list l) | none => none
  | .tup ds => match pyOfL ds with | some l => some (.tuple l) | none => none
  | _ => none
def pyOfL : List D → Option (List PyData)
  | [] => some []
  | d :: ds => match pyOf d, pyOfL ds with | some p, some l => some (p :: l) | _, _ => none
end
mutual
theorem Rep.dp (x : Exr G H) : ∀ (d : D) (v : V) (q : PyData), Rep K T G d v → pyOf d = some q → Dp K H v q
  | .non, _, _, h, e => by cases e; cases h; exact .non
  | .bl _, _, _, h, e => by cases e; cases h; exact .bl _
  | .int _, _, _, h, e => by cases e; cases h; exact .int _
  | .str _, _, _, h, e => by cases e; cases h; exact .str _
  | .lst ds, _, _, ⟨p, vs, e1, e2, r⟩, e => by
    unfold pyOf at e
    split at e
    · rename_i l hl; cases e; subst e1; exact .lst (SqL.of (x.at e2 rfl)) (RepL.dp x ds vs l r hl)
    · cases e
  | .tup ds, _, _, ⟨p, vs, e1, e2, r⟩, e => by
    unfold pyOf at e
    split at e
    · rename_i l hl; cases e; subst e1; exact .tup (SqT.of (x.at e2 rfl)) (RepL.dp x ds vs l r hl)
    · cases e
  | .rol _, _, _, _, e => by cases e
  | .rot _, _, _, _, e => by cases e
  | .dK _, _, _, _, e => by cases e
  | .dT _, _, _, _, e => by cases e
  | .ins _ _, _, _, _, e => by cases e
  | .exc _ _, _, _, _, e => by cases e
  | .lam, _, _, _, e => by cases e
theorem RepL.dp (x : Exr G H) : ∀ (ds : List D) (vs : List V) (l : List PyData), RepL K T G ds vs → pyOfL ds = some l → DpAll K H vs l
  | [], _, _, h, e => by cases e; cases h; exact .nil
  | d :: ds, _, _, ⟨v, r, e1, h1, h2⟩, e => by
    unfold pyOfL at e
    split at e
    · rename_i p l hp hl; cases e; subst e1; exact .cons (Rep.dp x d v p h1 hp) (RepL.dp x ds r l h2 hl)
    · cases e
end
theorem Cont.dp {d : D} {q : PyData} (x : Exr G H) (c : Cont K T G H v d) (e : pyOf d = some q) : Dp K H v q := by
  rcases c with c | ⟨p, ev, ho⟩
  · exact c.dp x d v q e
  · subst ev
    cases d with
    | lst ds =>
      obtain ⟨vs, hp, r⟩ := ho
      unfold pyOf at e
      split at e
      · rename_i l hl; cases e; exact .lst (SqL.of hp) (RepL.dp x ds vs l r hl)
      · cases e
    | dK _ => cases e
    | dT _ => cases e
    | ins _ _ => cases e
    | _ => exact ho.elim
def intsD : List D → Option (List Int)
  | [] => some []
  | .int i :: ds => match intsD ds with | some l => some (i :: l) | none => none
  | _ :: _ => none
def eqI : List Int → List Int → Bool
  | [], [] => true
  | i :: a, j :: b => decide (i = j) && eqI a b
  | _, _ => false
def eqSlow (a b : D) : Option Bool := match pyOf a, pyOf b with
  | some p, some q => if SeqAt.shaped p = true ∧ SeqAt.shaped q = true then some (PyData.eqv p q) else none
  | _, _ => none
def eqD (a b : D) : Option Bool := match a, b with
  | .int i, .int j => some (decide (i = j))
  | .tup a, .tup b => match intsD a, intsD b with
    | some x, some y => if x.length ≤ 1000 ∧ y.length ≤ 1000 then some (eqI x y) else none
    | _, _ => eqSlow (.tup a) (.tup b)
  | a, b => eqSlow a b
def prEq : Pr
  | [a, b] => match eqD a b with | some r => some (false, .bl r) | none => none
  | _ => none
def prNe : Pr
  | [a, b] => match eqD a b with | some r => some (false, .bl (!r)) | none => none
  | _ => none
theorem eqSlow_some {a b : D} {r : Bool} (h : eqSlow a b = some r) : ∃ p q, pyOf a = some p ∧ pyOf b = some q ∧ SeqAt.shaped p = true ∧ SeqAt.shaped q = true ∧ r = PyData.eqv p q := by
  unfold eqSlow at h
  split at h
  · rename_i p q h1 h2
    split at h
    · rename_i hz; cases h; exact ⟨p, q, h1, h2, hz.1, hz.2, rfl⟩
    · cases h
  · cases h
theorem intsD_py : ∀ {ds : List D} {l : List Int}, intsD ds = some l → pyOfL ds = some (l.map PyData.int)
  | [], _, h => by cases h; rfl
  | .int i :: ds, l, h => by
    unfold intsD at h
    split at h
    · rename_i l' h'
      cases h
      unfold pyOfL
      rw [intsD_py h']; rfl
    · cases h
  | .non :: _, _, h => by cases h
  | .bl _ :: _, _, h => by cases h
  | .str _ :: _, _, h => by cases h
  | .tup _ :: _, _, h => by cases h
  | .lst _ :: _, _, h => by cases h
  | .rol _ :: _, _, h => by cases h
  | .rot _ :: _, _, h => by cases h
  | .dK _ :: _, _, h => by cases h
  | .dT _ :: _, _, h => by cases h
  | .ins _ _ :: _, _, h => by cases h
  | .exc _ _ :: _, _, h => by cases h
  | .lam :: _, _, h => by cases h
theorem eqI_eqv : ∀ (x y : List Int), PyData.eqvAll (x.map PyData.int) (y.map PyData.int) = eqI x y
  | [], [] => by simp [PyData.eqvAll, eqI]
  | i :: x, j :: y => by
    rw [List.map_cons, List.map_cons]
    show PyData.eqvAll (PyData.int i :: x.map PyData.int) (PyData.int j :: y.map PyData.int) = (decide (i = j) && eqI x y)
    rw [show PyData.eqvAll (PyData.int i :: x.map PyData.int) (PyData.int j :: y.map PyData.int) = (PyData.eqv (.int i) (.int j) && PyData.eqvAll (x.map PyData.int) (y.map PyData.int)) from by simp [PyData.eqvAll], eqI_eqv x y,
      show PyData.eqv (.int i) (.int j) = (i == j) from by simp [PyData.eqv], Bool.beq_eq_decide_eq]
  | [], j :: y => by simp [PyData.eqvAll, eqI]
  | i :: x, [] => by simp [PyData.eqvAll, eqI]
theorem lay_ints : ∀ (x : List Int), PyData.canLayAll0 (x.map PyData.int) = true
  | [] => by simp [PyData.canLayAll0]
  | i :: x => by
    rw [List.map_cons]
    simp only [PyData.canLayAll0, PyData.canLay0, Bool.true_and]
    exact lay_ints x
theorem dep_ints : ∀ (x : List Int), PyData.depthAll (x.map PyData.int) ≤ 1
  | [] => by simp [PyData.depthAll]
  | i :: x => by
    have := dep_ints x
    rw [List.map_cons]
    simp only [PyData.depthAll, PyData.depth]
    omega
theorem shaped_ints (x : List Int) : SeqAt.shaped (.tuple (x.map PyData.int)) = true := by
  have h := dep_ints x
  unfold SeqAt.shaped
  rw [Bool.and_eq_true, decide_eq_true_eq]
  refine ⟨by simp only [PyData.canLay0]; exact lay_ints x, ?_⟩
  simp only [PyData.depth]
  omega
theorem eqD_some {a b : D} {r : Bool} (h : eqD a b = some r) : ∃ p q, pyOf a = some p ∧ pyOf b = some q ∧ SeqAt.shaped p = true ∧ SeqAt.shaped q = true ∧ r = PyData.eqv p q := by
  unfold eqD at h
  split at h
  · rename_i i j
    cases h
    exact ⟨.int i, .int j, rfl, rfl, rfl, rfl, by
      show decide (i = j) = PyData.eqv (.int i) (.int j)
      rw [show PyData.eqv (.int i) (.int j) = (i == j) from by simp [PyData.eqv], Bool.beq_eq_decide_eq]⟩
  · rename_i a b
    split at h
    · rename_i x y h1 h2
      split at h
      · rename_i hz
        cases h
        refine ⟨.tuple (x.map PyData.int), .tuple (y.map PyData.int), by unfold pyOf; rw [intsD_py h1], by unfold pyOf; rw [intsD_py h2], ?_, ?_, ?_⟩
        · exact shaped_ints x
        · exact shaped_ints y
        · rw [← eqI_eqv]; simp [PyData.eqv]
      · cases h
    · exact eqSlow_some h
  · exact eqSlow_some h
theorem pe_eq (hu : X.A.units + 64 < cLine) {a b : Expr} {oa ob : Opd} {pos} (ha : PE X a (tO X.K B oa)) (hb : PE X b (tO X.K B ob)) : PE X (.Compare a [.Eq] [b] pos) (tF X.K B (fPrim prEq [oa, ob])) :=
  pe_bin (pe_cmpR (op_eqD hu) ha hb (nomark _)) fun G H vs ds fl d Q x c hp k => by
    unfold prEq at hp
    split at hp
    · obtain ⟨u, w, rfl, c1, c2⟩ := c.two
      split at hp
      · rename_i r hr
        cases hp
        obtain ⟨p, q, h1, h2, s1, s2, e⟩ := eqD_some hr
        subst e
        exact ⟨p, q, c1.dp x h1, c2.dp x h2, s1, s2, k _ _ _ (new_same x rfl)⟩
      · cases hp
    · cases hp
theorem pe_ne (hu : X.A.units + 64 < cLine) {a b : Expr} {oa ob : Opd} {pos} (ha : PE X a (tO X.K B oa)) (hb : PE X b (tO X.K B ob)) : PE X (.Compare a [.NotEq] [b] pos) (tF X.K B (fPrim prNe [oa, ob])) :=
  pe_bin (pe_cmpR (op_neD hu) ha hb (nomark _)) fun G H vs ds fl d Q x c hp k => by
    unfold prNe at hp
    split at hp
    · obtain ⟨u, w, rfl, c1, c2⟩ := c.two
      split at hp
      · rename_i r hr
        cases hp
        obtain ⟨p, q, h1, h2, s1, s2, e⟩ := eqD_some hr
        subst e
        exact ⟨p, q, c1.dp x h1, c2.dp x h2, s1, s2, k _ _ _ (new_same x rfl)⟩
      · cases hp
    · cases hp
end
end Pf
/-! part Pf2 -/
set_option Elab.async false
set_option linter.all false
set_option maxRecDepth 100000
/-! Pf2: tests, membership, subscripts, built-ins. -/
namespace Pf
open PySem L2
section
variable {X : Cx} {B : Bs} {K : PySem.W.Frag} {T : Tab} {G G' H H' : Hp} {σ : L2.St} {ρ : Ve} {Q : VK} {v : V} {e : Expr} {es : List Expr}

/-! ### tests -/
inductive TR where
  | ok (b : Bool) (ρ : Ve) | ex (x : D) (ρ : Ve) | no
abbrev TFn := Ve → TR
def PostT (K : PySem.W.Frag) (B : Bs) (G : Hp) (σ : L2.St) (Q : Bool → Hp → Prop) : TR → Prop
  | .ok b ρ => ∀ G' H', Ex G G' → Sim K B G' H' σ ρ → Q b H'
  | .ex x ρ => B.wX x ρ
  | .no => False
def tT (K : PySem.W.Frag) (B : Bs) (f : TFn) : TT := fun σ H Q => ∃ G ρ, Sim K B G H σ ρ ∧ PostT K B G σ Q (f ρ)
/-- truth -/
def truD : D → Option Bool
  | .non => some false
  | .bl b => some b
  | .int i => some (i != 0)
  | .str s => if s.length ≤ 100000 then some ((s.length : Int) != 0) else none
  | .lst ds => some (!ds.isEmpty)
  | .rol ds => some (!ds.isEmpty)
  | .tup ds => some (!ds.isEmpty)
  | .rot ds => some (!ds.isEmpty)
  | _ => none
theorem RepL.empty {ds : List D} {vs : List V} (r : RepL K T G ds vs) : vs.isEmpty = ds.isEmpty := by
  cases ds with
  | nil => cases r; rfl
  | cons d ds => obtain ⟨v, w, e, _⟩ := r; subst e; rfl
theorem Cont.tru {d : D} {b : Bool} (x : Exr G H) (c : Cont K T G H v d) (h : truD d = some b) : TruV K v H b := by
  cases d with
  | non => cases h; rw [c.non]; rfl
  | bl z => cases h; rw [c.bl]; rfl
  | int z => cases h; rw [c.int]; rfl
  | str z =>
    rw [c.str]
    dsimp only [truD] at h
    split at h
    · rename_i hl; cases h; exact ⟨sz100 hl, rfl⟩
    · cases h
  | lst ds => cases h; obtain ⟨p, vs, e, s, r⟩ := c.lst x; subst e; exact .inl ⟨vs, SqL.of s, by rw [r.empty]⟩
  | rol ds => cases h; obtain ⟨p, vs, e, s, r⟩ := c.rol x; subst e; exact .inl ⟨vs, s, by rw [r.empty]⟩
  | tup ds => cases h; obtain ⟨p, vs, e, s, r⟩ := c.tup x; subst e; exact .inr (.inl ⟨vs, SqT.of s, by rw [r.empty]⟩)
  | rot ds => cases h; obtain ⟨p, vs, e, s, r⟩ := c.rot x; subst e; exact .inr (.inl ⟨vs, s, by rw [r.empty]⟩)
  | _ => cases h
def tTr (o : Opd) : TFn := fun ρ => match evO o ρ with
  | .ok h ρ1 => match h.get ρ1 with
    | some d => match truD d with
      | some b => .ok b ρ1
      | none => .no
    | none => .no
  | .ex x ρ1 => .ex x ρ1
  | .no => .no
theorem pt_tru {a : Expr} {o : Opd} (h : PE X a (tO X.K B o)) (he : ∀ whole, isTrue a X.env whole = (do let v ← whole; standAt a.pos; holding [v] (truthy v)) := by intro _; rfl) : PT X a (tT X.K B (tTr o)) :=
  PT.imp (pt_truth h he) fun σ H Q hq => by
    obtain ⟨G, ρ, S, q⟩ := hq
    refine tO_run S ?_
    dsimp only [tTr] at q
    cases h1 : evO o ρ with
    | ok h1' ρ1 =>
      rw [h1] at q
      intro G1 H1 v e1 S1 k1
      dsimp only at q
      cases h2 : h1'.get ρ1 with
      | none => rw [h2] at q; exact q.elim
      | some d =>
        rw [h2] at q
        dsimp only at q
        cases h3 : truD d with
        | none => rw [h3] at q; exact q.elim
        | some b =>
          rw [h3] at q
          exact ⟨b, (Hd.get_ok S1 k1 h2).tru S1.ex h3, q G1 H1 e1 S1⟩
    | ex x ρ1 => rw [h1] at q; exact q
    | no => rw [h1] at q; exact q
def tNo (t : TFn) : TFn := fun ρ => match t ρ with
  | .ok b ρ1 => .ok (!b) ρ1
  | r => r
def tAn (t u : TFn) : TFn := fun ρ => match t ρ with
  | .ok true ρ1 => u ρ1
  | r => r
def tOo (t u : TFn) : TFn := fun ρ => match t ρ with
  | .ok false ρ1 => u ρ1
  | r => r
theorem tT_run {t : TFn} {G H : Hp} {ρ : Ve} {Q : Bool → Hp → Prop} (S : Sim K B G H σ ρ) (h : PostT K B G σ Q (t ρ)) : tT K B t σ H Q := ⟨G, ρ, S, h⟩
theorem pt_no {a : Expr} {t : TFn} {pos} (h : PT X a (tT X.K B t)) : PT X (.UnaryOp .Not a pos) (tT X.K B (tNo t)) := PT.imp (pt_not h) fun σ H Q hq => by
  obtain ⟨G, ρ, S, q⟩ := hq
  refine ⟨G, ρ, S, ?_⟩
  dsimp only [tNo] at q
  cases h1 : t ρ with
  | ok b ρ1 => rw [h1] at q; exact q
  | ex x ρ1 => rw [h1] at q; exact q
  | no => rw [h1] at q; exact q
theorem PW.imp {t t' : TT} (h : PW X e t) (k : ∀ σ H Q, t' σ H Q → t σ H Q) : PW X e t' := ⟨fun w pins s σ H Q I q => h.run w pins s σ H Q I (k σ H Q q)⟩
theorem pw_an {a b : Expr} {rest : List Expr} {t u : TFn} {pos} (ha : PT X a (tT X.K B t)) (hb : PW X (.BoolOp .And (b :: rest) pos) (tT X.K B u)) : PW X (.BoolOp .And (a :: b :: rest) pos) (tT X.K B (tAn t u)) :=
  PW.imp (pw_and ha hb) fun σ H Q hq => by
    obtain ⟨G, ρ, S, q⟩ := hq
    refine ⟨G, ρ, S, ?_⟩
    dsimp only [tAn] at q
    cases h1 : t ρ with
    | ok c ρ1 =>
      rw [h1] at q
      intro G1 H1 e1 S1
      cases c with
      | true =>
        rw [if_pos rfl]
        refine ⟨G1, ρ1, S1, ?_⟩
        dsimp only at q
        cases h2 : u ρ1 with
        | ok c2 ρ2 => rw [h2] at q; exact fun G2 H2 e2 S2 => q G2 H2 (e1.trans e2) S2
        | ex x ρ2 => rw [h2] at q; exact q
        | no => rw [h2] at q; exact q
      | false =>
        rw [if_neg Bool.false_ne_true]
        exact q G1 H1 e1 S1
    | ex x ρ1 => rw [h1] at q; exact q
    | no => rw [h1] at q; exact q
theorem pw_oo {a b : Expr} {rest : List Expr} {t u : TFn} {pos} (ha : PT X a (tT X.K B t)) (hb : PW X (.BoolOp .Or (b :: rest) pos) (tT X.K B u)) : PW X (.BoolOp .Or (a :: b :: rest) pos) (tT X.K B (tOo t u)) :=
  PW.imp (pw_or ha hb) fun σ H Q hq => by
    obtain ⟨G, ρ, S, q⟩ := hq
    refine ⟨G, ρ, S, ?_⟩
    dsimp only [tOo] at q
    cases h1 : t ρ with
    | ok c ρ1 =>
      rw [h1] at q
      intro G1 H1 e1 S1
      cases c with
      | true =>
        rw [if_pos rfl]
        exact q G1 H1 e1 S1
      | false =>
        rw [if_neg Bool.false_ne_true]
        refine ⟨G1, ρ1, S1, ?_⟩
        dsimp only at q
        cases h2 : u ρ1 with
        | ok c2 ρ2 => rw [h2] at q; exact fun G2 H2 e2 S2 => q G2 H2 (e1.trans e2) S2
        | ex x ρ2 => rw [h2] at q; exact q
        | no => rw [h2] at q; exact q
    | ex x ρ1 => rw [h1] at q; exact q
    | no => rw [h1] at q; exact q
/-! as values -/
def fIf (t : TFn) (f g : EF) : EF := fun ρ => match t ρ with
  | .ok true ρ1 => f ρ1
  | .ok false ρ1 => g ρ1
  | .ex x ρ1 => .ex x ρ1
  | .no => .no
theorem PostE.mono (e : Ex G G') {r : ER} (h : PostE K B G σ Q r) : PostE K B G' σ Q r := by
  cases r with
  | ok fl d ρ => exact fun G2 H2 v e2 S2 k => h G2 H2 v (e.trans e2) S2 k
  | ex x ρ => exact h
  | no => exact h
theorem pe_if {c a b : Expr} {t : TFn} {f g : EF} {pos} (hc : PT X c (tT X.K B t)) (ha : PE X a (tF X.K B f)) (hb : PE X b (tF X.K B g)) : PE X (.IfExp c a b pos) (tF X.K B (fIf t f g)) :=
  PE.imp (pe_ifExp hc ha hb) fun σ H Q hq => by
    obtain ⟨G, ρ, S, q⟩ := hq
    refine ⟨G, ρ, S, ?_⟩
    dsimp only [fIf] at q
    cases h1 : t ρ with
    | ok c ρ1 =>
      rw [h1] at q
      intro G1 H1 e1 S1
      cases c with
      | true => rw [if_pos rfl]; exact ⟨G1, ρ1, S1, PostE.mono e1 q⟩
      | false => rw [if_neg Bool.false_ne_true]; exact ⟨G1, ρ1, S1, PostE.mono e1 q⟩
    | ex x ρ1 => rw [h1] at q; exact q
    | no => rw [h1] at q; exact q
theorem ValOk.blv {fl : Bool} {b : Bool} (h : ValOk K B G H σ ρ fl v (.bl b)) : v = .bl b := by
  cases fl with
  | false => exact h
  | true => obtain ⟨p, _, ho, _⟩ := h; exact ho.elim
def fAndV (f g : EF) : EF := fun ρ => match f ρ with
  | .ok _ (.bl true) ρ1 => g ρ1
  | .ok _ (.bl false) ρ1 => .ok false (.bl false) ρ1
  | .ok _ _ _ => .no
  | .ex x ρ1 => .ex x ρ1
  | .no => .no
def fOrV (f g : EF) : EF := fun ρ => match f ρ with
  | .ok _ (.bl false) ρ1 => g ρ1
  | .ok _ (.bl true) ρ1 => .ok false (.bl true) ρ1
  | .ok _ _ _ => .no
  | .ex x ρ1 => .ex x ρ1
  | .no => .no
def fNotV (f : EF) : EF := fun ρ => match f ρ with
  | .ok _ (.bl b) ρ1 => .ok false (.bl (!b)) ρ1
  | .ok _ _ _ => .no
  | .ex x ρ1 => .ex x ρ1
  | .no => .no
theorem pe_andV {a b : Expr} {rest : List Expr} {f g : EF} {pos} (ha : PE X a (tF X.K B f)) (hb : PE X (.BoolOp .And (b :: rest) pos) (tF X.K B g)) : PE X (.BoolOp .And (a :: b :: rest) pos) (tF X.K B (fAndV f g)) :=
  PE.imp (pe_and ha hb) fun σ H Q hq => by
    obtain ⟨G, ρ, S, q⟩ := hq
    refine ⟨G, ρ, S, ?_⟩
    dsimp only [fAndV] at q
    cases h1 : f ρ with
    | ok fl d ρ1 =>
      rw [h1] at q
      intro G1 H1 v e1 S1 k1
      cases d with
      | bl c =>
        have ev := k1.blv
        cases c with
        | true => exact ⟨true, ev, by rw [if_pos rfl]; exact ⟨G1, ρ1, S1, PostE.mono e1 q⟩⟩
        | false => exact ⟨false, ev, by rw [if_neg Bool.false_ne_true]; exact q G1 H1 _ e1 S1 rfl⟩
      | _ => exact q.elim
    | ex x ρ1 => rw [h1] at q; exact q
    | no => rw [h1] at q; exact q
theorem pe_orV {a b : Expr} {rest : List Expr} {f g : EF} {pos} (ha : PE X a (tF X.K B f)) (hb : PE X (.BoolOp .Or (b :: rest) pos) (tF X.K B g)) : PE X (.BoolOp .Or (a :: b :: rest) pos) (tF X.K B (fOrV f g)) :=
  PE.imp (pe_or ha hb) fun σ H Q hq => by
    obtain ⟨G, ρ, S, q⟩ := hq
    refine ⟨G, ρ, S, ?_⟩
    dsimp only [fOrV] at q
    cases h1 : f ρ with
    | ok fl d ρ1 =>
      rw [h1] at q
      intro G1 H1 v e1 S1 k1
      cases d with
      | bl c =>
        have ev := k1.blv
        cases c with
        | true => exact ⟨true, ev, by rw [if_pos rfl]; exact q G1 H1 _ e1 S1 rfl⟩
        | false => exact ⟨false, ev, by rw [if_neg Bool.false_ne_true]; exact ⟨G1, ρ1, S1, PostE.mono e1 q⟩⟩
      | _ => exact q.elim
    | ex x ρ1 => rw [h1] at q; exact q
    | no => rw [h1] at q; exact q
theorem pe_notV {a : Expr} {f : EF} {pos} (ha : PE X a (tF X.K B f)) : PE X (.UnaryOp .Not a pos) (tF X.K B (fNotV f)) :=
  PE.imp (pe_not ha) fun σ H Q hq => by
    obtain ⟨G, ρ, S, q⟩ := hq
    refine ⟨G, ρ, S, ?_⟩
    dsimp only [fNotV] at q
    cases h1 : f ρ with
    | ok fl d ρ1 =>
      rw [h1] at q
      intro G1 H1 v e1 S1 k1
      cases d with
      | bl c => exact ⟨c, k1.blv, q G1 H1 _ e1 S1 rfl⟩
      | _ => exact q.elim
    | ex x ρ1 => rw [h1] at q; exact q
    | no => rw [h1] at q; exact q

/-! ### is None -/
def isNon : D → Bool
  | .non => true | _ => false
theorem Cont.isNon {d : D} (c : Cont K T G H v d) : decide (v = .non) = Pf.isNon d := by
  cases d with
  | non => rw [c.non]; rfl
  | bl b => rw [c.bl]; rfl
  | int b => rw [c.int]; rfl
  | str b => rw [c.str]; rfl
  | tup ds => rcases c with ⟨p, vs, e, _⟩ | ⟨p, e, _⟩ <;> (subst e; rfl)
  | lst ds => rcases c with ⟨p, vs, e, _⟩ | ⟨p, e, _⟩ <;> (subst e; rfl)
  | rol ds => rcases c with ⟨p, vs, e, _⟩ | ⟨p, e, _⟩ <;> (subst e; rfl)
  | rot ds => rcases c with ⟨p, vs, e, _⟩ | ⟨p, e, _⟩ <;> (subst e; rfl)
  | dK ds => rcases c with ⟨p, vs, e, _⟩ | ⟨p, e, _⟩ <;> (subst e; rfl)
  | dT ds => rcases c with ⟨p, vs, e, _⟩ | ⟨p, e, _⟩ <;> (subst e; rfl)
  | ins k ds => rcases c with ⟨p, dx, vs, e, _⟩ | ⟨p, e, _⟩ <;> (subst e; rfl)
  | exc k ds => rcases c with ⟨p, dx, vs, e, _⟩ | ⟨p, e, _⟩ <;> (subst e; rfl)
  | lam => rcases c with ⟨p, e, _⟩ | ⟨p, e, _⟩ <;> (subst e; rfl)
def prIsN : Pr
  | [a] => some (false, .bl (isNon a)) | _ => none
def prNotN : Pr
  | [a] => some (false, .bl (!isNon a)) | _ => none
theorem pe_isN {a : Expr} {o : Opd} {j pos' pos} (h : PE X a (tO X.K B o)) : PE X (.Compare a [.Is] [.Constant .none j pos'] pos) (tF X.K B (fPrim prIsN [o])) :=
  pe_un1 (r := fun x H Q => Q (.bl (decide (x = .non))) H) (show PE X _ (tUn (fun x H Q => Q (.bl (decide (x = .non))) H) (tO X.K B o)) from pe_cmp (pc_isN h) rfl) fun G H vs ds fl d Q x c hp k => by
    unfold prIsN at hp
    split at hp
    · obtain ⟨u, rfl, c1⟩ := c.one
      cases hp
      show Q (.bl (decide (u = .non))) H
      rw [c1.isNon]
      exact k _ _ _ (new_same x rfl)
    · cases hp
theorem pe_notN {a : Expr} {o : Opd} {j pos' pos} (h : PE X a (tO X.K B o)) : PE X (.Compare a [.IsNot] [.Constant .none j pos'] pos) (tF X.K B (fPrim prNotN [o])) :=
  pe_un1 (r := fun x H Q => Q (.bl (!decide (x = .non))) H) (show PE X _ (tUn (fun x H Q => Q (.bl (!decide (x = .non))) H) (tO X.K B o)) from pe_cmp (pc_notN h) rfl) fun G H vs ds fl d Q x c hp k => by
    unfold prNotN at hp
    split at hp
    · obtain ⟨u, rfl, c1⟩ := c.one
      cases hp
      show Q (.bl (!decide (u = .non))) H
      rw [c1.isNon]
      exact k _ _ _ (new_same x rfl)
    · cases hp

/-! ### a < b < c -/
def fChain (p q : Int → Int → Bool) (oa ob oc : Opd) : EF := fun ρ => match evO oa ρ with
  | .ok ha ρ1 => match evO ob ρ1 with
    | .ok hb ρ2 => match ha.get ρ2, hb.get ρ2 with
      | some (.int i), some (.int j) => if p i j = true then (match evO oc ρ2 with
        | .ok hc ρ3 => match hc.get ρ3 with
          | some (.int k) => .ok false (.bl (q j k)) ρ3
          | _ => .no
        | .ex x ρ3 => .ex x ρ3
        | .no => .no) else .ok false (.bl false) ρ2
      | _, _ => .no
    | .ex x ρ2 => .ex x ρ2
    | .no => .no
  | .ex x ρ1 => .ex x ρ1
  | .no => .no
theorem pe_ch {a b c : Expr} {oa ob oc : Opd} {op op' : CmpOp} {p q : Int → Int → Bool} {pos} (ho : OpR X (compareOp op) (rI0 fun i j => .bl (p i j))) (ho' : OpR X (compareOp op') (rI0 fun i j => .bl (q i j)))
    (ha : PE X a (tO X.K B oa)) (hb : PE X b (tO X.K B ob)) (hc : PE X c (tO X.K B oc)) (hm : lastMarks [op, op'] [b, c] = false) : PE X (.Compare a [op, op'] [b, c] pos) (tF X.K B (fChain p q oa ob oc)) :=
  PE.imp (pe_chain ho ho' ha hb hc hm) fun σ H Q hq => by
    obtain ⟨G, ρ, S, z⟩ := hq
    refine tO_run S ?_
    dsimp only [fChain] at z
    cases h1 : evO oa ρ with
    | ex x ρ1 => rw [h1] at z; exact z
    | no => rw [h1] at z; exact z
    | ok hA ρ1 =>
      rw [h1] at z
      intro G1 H1 v1 e1 S1 k1
      refine tO_run S1 ?_
      dsimp only at z
      cases h2 : evO ob ρ1 with
      | ex x ρ2 => rw [h2] at z; exact z
      | no => rw [h2] at z; exact z
      | ok hB ρ2 =>
        rw [h2] at z
        intro G2 H2 v2 e2 S2 k2
        dsimp only at z
        split at z
        · rename_i i j g1 g2
          have c1 := (Hd.get_ok S2 (k1.mono e2) g1).int
          have c2 := (Hd.get_ok S2 k2 g2).int
          refine ⟨i, j, c1, c2, p i j, rfl, ?_⟩
          by_cases hp : p i j = true
          · rw [if_pos hp] at z ⊢
            refine tO_run S2 ?_
            cases h3 : evO oc ρ2 with
            | ex x ρ3 => rw [h3] at z; exact z
            | no => rw [h3] at z; exact z
            | ok hC ρ3 =>
              rw [h3] at z
              intro G3 H3 v3 e3 S3 k3
              dsimp only at z
              split at z
              · rename_i k g3
                exact ⟨j, k, c2, (Hd.get_ok S3 k3 g3).int, z G3 H3 _ ((e1.trans e2).trans e3) S3 rfl⟩
              · exact z.elim
          · rw [if_neg hp] at z ⊢
            exact z G2 H2 _ (e1.trans e2) S2 rfl
        · exact z.elim
end
end Pf
/-! part Pf3 -/
set_option Elab.async false
set_option linter.all false
set_option maxRecDepth 100000
/-! Pf3: membership, subscripts, dicts read, built-ins by name. -/
namespace Pf
open PySem L2
section
variable {X : Cx} {B : Bs} {K : PySem.W.Frag} {T : Tab} {G G' H H' : Hp} {σ : L2.St} {ρ : Ve} {Q : VK} {v : V} {e : Expr} {es : List Expr}

/-! ### in -/
def ng (neg b : Bool) : Bool := if neg then !b else b
def prInL (neg : Bool) : Pr
  | [a, .lst ds] => match pyOf a, pyOfL ds with
    | some d, some l => if SeqAt.shaped d = true ∧ SeqAt.shaped (.list l) = true then some (false, .bl (ng neg (l.any fun z => PyData.eqv z d))) else none
    | _, _ => none
  | _ => none
def flatD : D → Bool
  | .non => true | .bl _ => true | .int _ => true | .str _ => true | _ => false
def cVd (d : D) : V := (cV d).getD .non
def prInT (neg : Bool) : Pr
  | [a, .tup ds] => if flatD a = true ∧ ds.all flatD = true then some (false, .bl (ng neg (inV (cVd a) (ds.map cVd)))) else none
  | _ => none
def prInS (neg : Bool) : Pr
  | [.str a, .str b] => some (false, .bl (ng neg (!(Builtin.Str.occurrences b a 0 b.length 1).isEmpty)))
  | _ => none
theorem flat_cV {d : D} (h : flatD d = true) (c : Cont K T G H v d) : v = cVd d ∧ flatV v = true := by
  cases d with
  | non => rw [c.non]; exact ⟨rfl, rfl⟩
  | bl b => rw [c.bl]; exact ⟨rfl, rfl⟩
  | int b => rw [c.int]; exact ⟨rfl, rfl⟩
  | str b => rw [c.str]; exact ⟨rfl, rfl⟩
  | _ => cases h
theorem flat_all : ∀ {ds : List D} {vs : List V}, ds.all flatD = true → RepL K T G ds vs → vs = ds.map cVd ∧ vs.all flatV = true
  | [], _, _, r => by cases r; exact ⟨rfl, rfl⟩
  | d :: ds, _, h, ⟨v, r, e, h1, h2⟩ => by
    subst e
    rw [List.all_cons, Bool.and_eq_true] at h
    obtain ⟨a1, a2⟩ := flat_cV (H := G) h.1 (.inl h1)
    obtain ⟨b1, b2⟩ := flat_all h.2 h2
    exact ⟨by rw [List.map_cons, ← a1, ← b1], by rw [List.all_cons, a2, b2]; rfl⟩
theorem cv_inT {neg : Bool} : CallV K T (r2of (rIn K neg)) (prInT neg) := fun G H vs ds fl d Q x c hp k => by
  unfold prInT at hp
  split at hp
  · obtain ⟨u, w, rfl, c1, c2⟩ := c.two
    split at hp
    · rename_i hz
      cases hp
      obtain ⟨p, xs, e1, s1, r1⟩ := c2.tup x
      obtain ⟨a1, a2⟩ := flat_cV hz.1 c1
      obtain ⟨b1, b2⟩ := flat_all hz.2 r1
      refine ⟨p, xs, e1, .inr (SqT.of s1), a2, b2, ?_⟩
      rw [a1, b1]
      exact k _ _ _ (new_same x rfl)
    · cases hp
  · cases hp
theorem cv_inL {neg : Bool} : CallV K T (r2of fun x y H Q => ∃ d ds, Dp K H x d ∧ Dp K H y (.list ds) ∧ SeqAt.shaped d = true ∧ SeqAt.shaped (.list ds) = true ∧ Q (.bl (ng neg (ds.any fun z => PyData.eqv z d))) H) (prInL neg) := fun G H vs ds fl d Q x c hp k => by
  unfold prInL at hp
  split at hp
  · obtain ⟨u, w, rfl, c1, c2⟩ := c.two
    split at hp
    · rename_i d' l h1 h2
      split at hp
      · rename_i hz
        cases hp
        exact ⟨d', l, c1.dp x h1, c2.dp x (by unfold pyOf; rw [h2]), hz.1, hz.2, k _ _ _ (new_same x rfl)⟩
      · cases hp
    · cases hp
  · cases hp
theorem cv_inS {neg : Bool} : CallV K T (r2of fun x y H Q => ∃ i j, x = .str i ∧ y = .str j ∧ Q (.bl (ng neg (!(Builtin.Str.occurrences j i 0 j.length 1).isEmpty))) H) (prInS neg) := fun G H vs ds fl d Q x c hp k => by
  unfold prInS at hp
  split at hp
  · obtain ⟨u, w, rfl, c1, c2⟩ := c.two
    cases hp
    exact ⟨_, _, c1.str, c2.str, k _ _ _ (new_same x rfl)⟩
  · cases hp
/-! dicts, by their keys -/
def kOf : D → Option Key
  | .int i => some (.inl i) | .str s => some (.inr s) | _ => none
def ksOf : List D → Option (List Key)
  | [] => some []
  | d :: ds => match kOf d, ksOf ds with | some k, some l => some (k :: l) | _, _ => none
section
variable {κ : Type} [DecidableEq κ]
def valD (kvs : List (κ × D)) (k : κ) : Option D := (kvs.find? fun kv => decide (kv.1 = k)).map (·.2)
def putD (kvs : List (κ × D)) (k : κ) (d : D) : List (κ × D) :=
  if (kvs.any fun kv => decide (kv.1 = k)) = true then kvs.map (fun kv => if kv.1 = k then (kv.1, d) else kv) else kvs ++ [(k, d)]
end
theorem kOf_rel {d : D} {k : Key} (h : kOf d = some k) (c : Cont K T G H v d) : v = kV k := by
  cases d with
  | int i => cases h; exact c.int
  | str i => cases h; exact c.str
  | _ => cases h
theorem ksOf_rel : ∀ {ds : List D} {ks : List Key} {vs : List V}, ksOf ds = some ks → RepL K T G ds vs → vs = ks.map kV
  | [], _, _, h, r => by cases h; cases r; rfl
  | d :: ds, ks, _, h, ⟨v, r, e, h1, h2⟩ => by
    subst e
    unfold ksOf at h
    split at h
    · rename_i k l hk hl
      cases h
      rw [List.map_cons, ← kOf_rel (H := G) hk (.inl h1), ← ksOf_rel hl h2]
    · cases h
theorem RepP.val {k : Key} : ∀ {kvs : List (Key × D)} {vs : List (Key × V)}, RepP K T G kvs vs → (∀ d, valD kvs k = some d → ∃ v, valV vs k = some v ∧ Rep K T G d v) ∧ (valD kvs k = none → valV vs k = none)
  | [], _, h => by cases h; exact ⟨fun d e => (by cases e), fun _ => rfl⟩
  | (a, d) :: kvs, _, ⟨v, r, e, h1, h2⟩ => by
    subst e
    have ih := RepP.val (k := k) h2
    unfold valD valV
    rw [List.find?_cons, List.find?_cons]
    by_cases hz : a = k
    · simp only [hz, decide_true]
      exact ⟨fun d' e => (by cases e; exact ⟨v, rfl, h1⟩), fun e => (by cases e)⟩
    · simp only [hz, decide_false]
      exact ih
theorem RepQ.val {k : List Key} : ∀ {kvs : List (List Key × D)} {vs : List (List Key × V)}, RepQ K T G kvs vs → (∀ d, valD kvs k = some d → ∃ v, valV vs k = some v ∧ Rep K T G d v) ∧ (valD kvs k = none → valV vs k = none)
  | [], _, h => by cases h; exact ⟨fun d e => (by cases e), fun _ => rfl⟩
  | (a, d) :: kvs, _, ⟨v, r, e, h1, h2⟩ => by
    subst e
    have ih := RepQ.val (k := k) h2
    unfold valD valV
    rw [List.find?_cons, List.find?_cons]
    by_cases hz : a = k
    · simp only [hz, decide_true]
      exact ⟨fun d' e => (by cases e; exact ⟨v, rfl, h1⟩), fun e => (by cases e)⟩
    · simp only [hz, decide_false]
      exact ih
/-- what a dict holds at a key -/
def dLook : D → D → Option (Option D)
  | .dK kvs, k => match kOf k with | some k => some (valD kvs k) | none => none
  | .dT kvs, .tup ks => match ksOf ks with | some k => some (valD kvs k) | none => none
  | _, _ => none
def LookOk (K : PySem.W.Frag) (T : Tab) (G : Hp) : Option D → Option V → Prop
  | none, o => o = none
  | some d, o => ∃ z, o = some z ∧ Rep K T G d z
theorem dget_ok {u w : V} {dd kd : D} {r : Option D} (x : Exr G H) (cd : Cont K T G H u dd) (ck : Cont K T G H w kd) (h : dLook dd kd = some r) :
    ∃ a o, u = .ref a ∧ IsD H a ∧ DGet H a w o ∧ LookOk K T G r o := by
  cases dd with
  | dK kvs =>
    dsimp only [dLook] at h
    cases hk : kOf kd with
    | none => rw [hk] at h; cases h
    | some k =>
      rw [hk] at h
      cases h
      obtain ⟨a, vs, e, rd, rp⟩ := cd.dK x
      have q := RepP.val (k := k) rp
      refine ⟨a, valV vs k, e, .inl ⟨_, rd⟩, .inl ⟨vs, k, rd, kOf_rel hk ck, rfl⟩, ?_⟩
      cases hv : valD kvs k with
      | none => exact q.2 hv
      | some d => exact q.1 d hv
  | dT kvs =>
    cases kd with
    | tup ks =>
      dsimp only [dLook] at h
      cases hk : ksOf ks with
      | none => rw [hk] at h; cases h
      | some k =>
        rw [hk] at h
        cases h
        obtain ⟨a, vs, e, rd, rp⟩ := cd.dT x
        obtain ⟨b, us, e2, hb, r2⟩ := ck.tup x
        have q := RepQ.val (k := k) rp
        refine ⟨a, valV vs k, e, .inr ⟨_, rd⟩, .inr ⟨vs, k, b, rd, e2, by rw [hb, ksOf_rel hk r2], rfl⟩, ?_⟩
        cases hv : valD kvs k with
        | none => exact q.2 hv
        | some d => exact q.1 d hv
    | _ => cases h
  | _ => cases h
def prInD (neg : Bool) : Pr
  | [k, d] => match dLook d k with | some r => some (false, .bl (ng neg r.isSome)) | none => none
  | _ => none
theorem cv_inD {neg : Bool} : CallV K T (r2of fun y x H Q => ∃ a o, x = .ref a ∧ DGet H a y o ∧ Q (.bl (ng neg o.isSome)) H) (prInD neg) := fun G H vs ds fl d Q x c hp k => by
  unfold prInD at hp
  split at hp
  · obtain ⟨u, w, rfl, c1, c2⟩ := c.two
    split at hp
    · rename_i r hr
      cases hp
      obtain ⟨a, o, e, _, g, q⟩ := dget_ok x c2 c1 hr
      refine ⟨a, o, e, g, ?_⟩
      have eo : o.isSome = r.isSome := by
        cases r with
        | none => rw [show o = none from q]; rfl
        | some d => obtain ⟨z, e, _⟩ := q; rw [e]; rfl
      rw [eo]
      exact k _ _ _ (new_same x rfl)
    · cases hp
  · cases hp
def prIn : Pr := prOr (prInL false) (prOr (prInT false) (prOr (prInS false) (prInD false)))
def prNin : Pr := prOr (prInL true) (prOr (prInT true) (prOr (prInS true) (prInD true)))
theorem pe_in (hu : X.A.units + 65 < cLine) {a b : Expr} {oa ob : Opd} {pos} (ha : PE X a (tO X.K B oa)) (hb : PE X b (tO X.K B ob)) (hm : behindInMarks .In b = false) : PE X (.Compare a [.In] [b] pos) (tF X.K B (fPrim prIn [oa, ob])) :=
  pe_or2 (pe_bin (pe_cmpR (op_inD hu) ha hb hm) (cv_inL (neg := false))) (pe_or2 (pe_bin (pe_cmpR op_in_seq ha hb hm) (cv_inT (neg := false)))
    (pe_or2 (pe_bin (pe_cmpR op_in_str ha hb hm) (cv_inS (neg := false))) (pe_bin (r := fun y x H Q => ∃ a o, x = .ref a ∧ DGet H a y o ∧ Q (.bl o.isSome) H) (pe_cmp (pc_din (by omega) ha hb) hm) (cv_inD (neg := false)))))
theorem pe_nin (hu : X.A.units + 65 < cLine) {a b : Expr} {oa ob : Opd} {pos} (ha : PE X a (tO X.K B oa)) (hb : PE X b (tO X.K B ob)) (hm : behindInMarks .NotIn b = false) : PE X (.Compare a [.NotIn] [b] pos) (tF X.K B (fPrim prNin [oa, ob])) :=
  pe_or2 (pe_bin (pe_cmpR (op_notInD hu) ha hb hm) (cv_inL (neg := true))) (pe_or2 (pe_bin (pe_cmpR op_notIn_seq ha hb hm) (cv_inT (neg := true)))
    (pe_or2 (pe_bin (pe_cmpR op_notIn_str ha hb hm) (cv_inS (neg := true))) (pe_bin (r := fun y x H Q => ∃ a o, x = .ref a ∧ DGet H a y o ∧ Q (.bl (!o.isSome)) H) (pe_cmp (pc_dnotin (by omega) ha hb) hm) (cv_inD (neg := true)))))

/-! ### subscripts -/
def seqOf : D → Option (List D)
  | .lst ds => some ds | .rol ds => some ds | .tup ds => some ds | .rot ds => some ds | _ => none
theorem IxR.or {r r' : R2} (h : IxR X r) (h' : IxR X r') : IxR X (fun x y H Q => r x y H Q ∨ r' x y H Q) :=
  fun a b pins s σ H x y v u Q I rx ry q => q.elim (h a b pins s σ H x y v u Q I rx ry) (h' a b pins s σ H x y v u Q I rx ry)
def prIx : Pr
  | [.str s, .int i] => if s.length ≤ 100000 then match atI s.cps.toList i with | some c => some (false, .str ⟨#[c]⟩) | none => none else none
  | [a, .int i] => match seqOf a with
    | some ds => match atI ds i with | some d => some (false, d) | none => none
    | none => none
  | _ => none
theorem atI_rep {ds : List D} {vs : List V} {i : Int} {d : D} (r : RepL K T G ds vs) (h : atI ds i = some d) : ∃ v, atI vs i = some v ∧ Rep K T G d v := by
  unfold atI at h ⊢
  rw [r.len]
  cases e : ixN ds.length i with
  | none => rw [e] at h; cases h
  | some j => rw [e] at h; exact r.get h
theorem Cont.seq {a : D} {ds : List D} (x : Exr G H) (c : Cont K T G H v a) (h : seqOf a = some ds) : ∃ p vs, v = .ref p ∧ (SqL K H p vs ∨ SqT K H p vs) ∧ RepL K T G ds vs := by
  cases a with
  | lst _ => cases h; obtain ⟨p, vs, e, s, r⟩ := c.lst x; exact ⟨p, vs, e, .inl (SqL.of s), r⟩
  | rol _ => cases h; obtain ⟨p, vs, e, s, r⟩ := c.rol x; exact ⟨p, vs, e, .inl s, r⟩
  | tup _ => cases h; obtain ⟨p, vs, e, s, r⟩ := c.tup x; exact ⟨p, vs, e, .inr (SqT.of s), r⟩
  | rot _ => cases h; obtain ⟨p, vs, e, s, r⟩ := c.rot x; exact ⟨p, vs, e, .inr s, r⟩
  | _ => cases h
def rIxA (K : PySem.W.Frag) : R2 := fun x y H Q => rIxS x y H Q ∨ rIxL K x y H Q ∨ rIxT K x y H Q
theorem cv_ix : CallV K T (r2of (rIxA K)) prIx := fun G H vs ds fl d Q x c hp k => by
  unfold prIx at hp
  split at hp
  · obtain ⟨u, w, rfl, c1, c2⟩ := c.two
    split at hp
    · rename_i hl
      split at hp
      · rename_i cc hc
        cases hp
        exact .inl ⟨_, _, cc, c1.str, c2.int, sz100 hl, hc, k _ _ _ (new_same x rfl)⟩
      · cases hp
    · cases hp
  · obtain ⟨u, w, rfl, c1, c2⟩ := c.two
    split at hp
    · rename_i ds hs
      split at hp
      · rename_i d hd
        cases hp
        obtain ⟨p, xs, e, sq, r⟩ := c1.seq x hs
        obtain ⟨z, hz, rz⟩ := atI_rep r hd
        rcases sq with sq | sq
        · exact .inr (.inl ⟨p, xs, _, z, e, c2.int, sq, hz, k _ _ _ (new_same x rz)⟩)
        · exact .inr (.inr ⟨p, xs, _, z, e, c2.int, sq, hz, k _ _ _ (new_same x rz)⟩)
      · cases hp
    · cases hp
  · cases hp
def prDIx : Pr
  | [d, k] => match dLook d k with | some (some r) => some (false, r) | _ => none
  | _ => none
theorem cv_dix : CallV K T (r2of fun x y H Q => ∃ a v, x = .ref a ∧ DGet H a y (some v) ∧ Q v H) prDIx := fun G H vs ds fl d Q x c hp k => by
  unfold prDIx at hp
  split at hp
  · obtain ⟨u, w, rfl, c1, c2⟩ := c.two
    split at hp
    · rename_i r hr
      cases hp
      obtain ⟨a, o, e, _, g, z, eo, rz⟩ := dget_ok x c1 c2 hr
      subst eo
      exact ⟨a, z, e, g, k _ _ _ (new_same x rz)⟩
    · cases hp
  · cases hp
def prSub' : Pr := prOr prIx prDIx
theorem pe_sub' (hu : X.A.units + 65 < cLine) {a b : Expr} {oa ob : Opd} {pos} (ha : PE X a (tO X.K B oa)) (hb : PE X b (tO X.K B ob)) (hs : PlainIx b := by exact fun _ _ => rfl) : PE X (.Subscript a b pos) (tF X.K B (fPrim prSub' [oa, ob])) :=
  pe_or2 (pe_bin (pe_ix (IxR.or ix_str (IxR.or ix_list ix_tup)) ha hb hs) cv_ix) (pe_bin (r := fun x y H Q => ∃ a v, x = .ref a ∧ DGet H a y (some v) ∧ Q v H) (pe_dget (by omega) ha hb hs) cv_dix)

/-! slices -/
def cutA {α : Type} (xs : List α) (lo hi : Option Int) : List α := (xs.drop (HT.sIx xs.length 0 lo)).take (HT.sIx xs.length xs.length hi - HT.sIx xs.length 0 lo)
def slD : D → Option Int → Option Int → Option (Bool × D)
  | .lst ds, lo, hi => some (true, .lst (cutA ds lo hi))
  | .rol ds, lo, hi => some (true, .lst (cutA ds lo hi))
  | .tup ds, lo, hi => some (false, .tup (cutA ds lo hi))
  | .str s, lo, hi => if s.length ≤ 100000 then some (false, .str (cutS s lo hi)) else none
  | _, _, _ => none
inductive PR where
  | ok (o : Option Int) (ρ : Ve) | ex (x : D) (ρ : Ve) | no
def evP : Option Opd → Ve → PR
  | none, ρ => .ok none ρ
  | some o, ρ => match evO o ρ with
    | .ok h ρ1 => match h.get ρ1 with
      | some (.int i) => .ok (some i) ρ1
      | _ => .no
    | .ex x ρ1 => .ex x ρ1
    | .no => .no
def tP (K : PySem.W.Frag) (B : Bs) : Option Opd → TO
  | none => tNoPart
  | some o => tPart (tO K B o)
def PostP (K : PySem.W.Frag) (B : Bs) (G : Hp) (σ : L2.St) (Q : Option Int → Hp → Prop) : PR → Prop
  | .ok o ρ => ∀ G' H', Ex G G' → Sim K B G' H' σ ρ → Q o H'
  | .ex x ρ => B.wX x ρ
  | .no => False
theorem tP_run {o : Option Opd} {Q : Option Int → Hp → Prop} (S : Sim K B G H σ ρ) (h : PostP K B G σ Q (evP o ρ)) : tP K B o σ H Q := by
  cases o with
  | none => exact h G H (Ex.refl _) S
  | some o =>
    refine tO_run S ?_
    dsimp only [evP] at h
    cases h1 : evO o ρ with
    | ok hd ρ1 =>
      rw [h1] at h
      intro G1 H1 v e1 S1 k1
      dsimp only at h
      split at h
      · rename_i i hi
        exact ⟨i, (Hd.get_ok S1 k1 hi).int, h G1 H1 e1 S1⟩
      · exact h.elim
    | ex x ρ1 => rw [h1] at h; exact h
    | no => rw [h1] at h; exact h
def fSl (o : Opd) (lo hi : Option Opd) : EF := fun ρ => match evO o ρ with
  | .ok h ρ1 => match evP lo ρ1 with
    | .ok l ρ2 => match evP hi ρ2 with
      | .ok u ρ3 => match h.get ρ3 with
        | some d => match slD d l u with
          | some (fl, r) => .ok fl r ρ3
          | none => .no
        | none => .no
      | .ex x ρ3 => .ex x ρ3
      | .no => .no
    | .ex x ρ2 => .ex x ρ2
    | .no => .no
  | .ex x ρ1 => .ex x ρ1
  | .no => .no
theorem SlR.or {r r' : V → Option Int → Option Int → Hp → VK → Prop} (h : L2.SlR X r) (h' : L2.SlR X r') : L2.SlR X (fun x l u H Q => r x l u H Q ∨ r' x l u H Q) :=
  fun pins s σ H x v vl vu lo hi sl Q I rx a b c q => q.elim (h pins s σ H x v vl vu lo hi sl Q I rx a b c) (h' pins s σ H x v vl vu lo hi sl Q I rx a b c)
theorem RepL.cut {ds : List D} {vs : List V} (lo hi : Option Int) (r : RepL K T G ds vs) : RepL K T G (cutA ds lo hi) (cutV vs lo hi) := by
  unfold cutA cutV
  rw [r.len]
  exact (r.drop _).take _
theorem cut_whole {α : Type} {xs : List α} {lo hi : Option Int} (h : HT.sIx xs.length 0 lo = 0 ∧ HT.sIx xs.length xs.length hi = xs.length) : cutA xs lo hi = xs := by
  unfold cutA
  rw [h.1, h.2, List.drop_zero, Nat.sub_zero, List.take_length]
theorem pe_sl {a : Expr} {lo hi : Option Expr} {o : Opd} {ol oh : Option Opd} {p2 pos} (ha : PE X a (tO X.K B o)) (hl : PO X lo (tP X.K B ol)) (hh : PO X hi (tP X.K B oh)) : PE X (.Subscript a (.Slice lo hi none p2) pos) (tF X.K B (fSl o ol oh)) :=
  PE.imp (pe_slice (SlR.or sl_list (SlR.or sl_tupA sl_str)) ha hl hh) fun σ H Q hq => by
    obtain ⟨G, ρ, S, z⟩ := hq
    refine tO_run S ?_
    dsimp only [fSl] at z
    cases h1 : evO o ρ with
    | ex x ρ1 => rw [h1] at z; exact z
    | no => rw [h1] at z; exact z
    | ok hd ρ1 =>
      rw [h1] at z
      intro G1 H1 v1 e1 S1 k1
      refine tP_run S1 ?_
      dsimp only at z
      cases h2 : evP ol ρ1 with
      | ex x ρ2 => rw [h2] at z; exact z
      | no => rw [h2] at z; exact z
      | ok l ρ2 =>
        rw [h2] at z
        intro G2 H2 e2 S2
        refine tP_run S2 ?_
        dsimp only at z
        cases h3 : evP oh ρ2 with
        | ex x ρ3 => rw [h3] at z; exact z
        | no => rw [h3] at z; exact z
        | ok u ρ3 =>
          rw [h3] at z
          intro G3 H3 e3 S3
          dsimp only at z
          cases h4 : hd.get ρ3 with
          | none => rw [h4] at z; exact z.elim
          | some d =>
            rw [h4] at z
            have c := Hd.get_ok S3 (k1.mono (e2.trans e3)) h4
            have x3 := S3.ex
            have fin : ∀ {fl r G' H' v}, NewOk X.K B.T G3 H3 G' H' fl v r → slD d l u = some (fl, r) → Q v H' := fun {fl r G' H' v} n hs => by
              dsimp only at z
              rw [hs] at z
              exact z G' H' v (((e1.trans e2).trans e3).trans n.1.e) (S3.grow n.1) (n.val S3)
            cases d with
            | lst ds =>
              obtain ⟨p, vs, e, s, r⟩ := c.lst x3
              exact .inl ⟨p, vs, e, SqL.of s, fun q hq => fin (new_lst x3 hq (r.cut l u)) rfl⟩
            | rol ds =>
              obtain ⟨p, vs, e, s, r⟩ := c.rol x3
              exact .inl ⟨p, vs, e, s, fun q hq => fin (new_lst x3 hq (r.cut l u)) rfl⟩
            | tup ds =>
              obtain ⟨p, vs, e, s, r⟩ := c.tup x3
              refine .inr (.inl ⟨p, vs, e, SqT.of s, fun hw => ?_, fun _ q hq => fin (new_tup x3 hq (r.cut l u)) rfl⟩)
              rw [r.len] at hw
              refine fin (G' := G3) (new_same x3 ?_) rfl
              rw [cut_whole hw]
              subst e
              rcases c with c | ⟨_, _, c⟩
              · exact c
              · exact c.elim
            | str s =>
              dsimp only [slD] at z fin
              split at z
              · rename_i r hr
                split at hr
                · rename_i hl
                  refine .inr (.inr ⟨s, c.str, sz100 hl, ?_⟩)
                  exact fin (new_same x3 (d := .str (cutS s l u)) rfl) (by rw [if_pos hl])
                · cases hr
              · exact z.elim
            | _ => exact z.elim
theorem po_no : PO X none (tP X.K B none) := po_none
theorem po_so {o : Opd} (h : PE X e (tO X.K B o)) : PO X (some e) (tP X.K B (some o)) := po_some h

/-! ### built-ins by name -/
theorem pe_bi {id : String} {r : List V → Hp → VK → Prop} {pr : Pr} {os : List Opd} {x : Str} {p pos : Pos} (hc : CallR X (.builtin id) r) (hv' : CallV X.K B.T r pr) (hg : Gl X x) (hm : X.mg x = none) (hv : bootBuiltins x = some (.builtin id)) (ha : PA X (e :: es) (tOs X.K B os))
    (hn : x ≠ "__name__" := by decide) (hdb : (x == ("__debug__" : Str)) = false := by decide) (he : starEach (e :: es) X.env = (false, eval e X.env) :: starEach es X.env := by rfl) (hpl : (backTo pos (starEach es X.env)).any (·.1) = false := by rfl) :
    PE X (.Call (.Name x p) (e :: es) [] pos) (tF X.K B (fPrim pr os)) := pe_prim (pe_callB hc hg hm hv ha hn hdb he hpl) hv'
theorem pe_bt {Tn : String} {r : List V → Hp → VK → Prop} {pr : Pr} {os : List Opd} {x : Str} {p pos : Pos} (hc : CallR X (.type Tn) r) (hv' : CallV X.K B.T r pr) (hg : Gl X x) (hm : X.mg x = none) (hv : bootBuiltins x = some (.type Tn)) (ha : PA X (e :: es) (tOs X.K B os))
    (hn : x ≠ "__name__" := by decide) (hdb : (x == ("__debug__" : Str)) = false := by decide) (he : starEach (e :: es) X.env = (false, eval e X.env) :: starEach es X.env := by rfl) (hpl : (backTo pos (starEach es X.env)).any (·.1) = false := by rfl) :
    PE X (.Call (.Name x p) (e :: es) [] pos) (tF X.K B (fPrim pr os)) := pe_prim (pe_callTy hc hg hm hv ha hn hdb he hpl) hv'
theorem pe_bf {id : String} {r : List V → Hp → VK → Prop} {pr : Pr} {os : List Opd} {x : Str} {p pos : Pos} (hc : CallR X (.builtin id) r) (hv' : CallV X.K B.T r pr) (hg : Gl X x) (hm : X.mg x = some (.builtin id)) (ha : PA X (e :: es) (tOs X.K B os))
    (hdb : (x == ("__debug__" : Str)) = false := by decide) (he : starEach (e :: es) X.env = (false, eval e X.env) :: starEach es X.env := by rfl) (hpl : (backTo pos (starEach es X.env)).any (·.1) = false := by rfl) :
    PE X (.Call (.Name x p) (e :: es) [] pos) (tF X.K B (fPrim pr os)) := pe_prim (pe_callBfun hc hg hm ha hdb he hpl) hv'
/-- len -/
def prLen : Pr
  | [.str s] => if s.length ≤ 100000 then some (false, .int (s.length : Nat)) else none
  | [a] => match seqOf a with | some ds => some (false, .int (ds.length : Nat)) | none => none
  | _ => none
def rLenA (K : PySem.W.Frag) : List V → Hp → VK → Prop := fun xs H Q => (∃ p ys, xs = [.ref p] ∧ (SqL K H p ys ∨ SqT K H p ys) ∧ Q (.int ys.length) H) ∨ (∃ z, xs = [.str z] ∧ z.length ≤ sizeLine ∧ Q (.int z.length) H)
theorem cr_lenA : CallR X (.builtin "len") (rLenA X.K) := CallR.or call_len_seq call_len_str
theorem cv_len : CallV K T (rLenA K) prLen := fun G H vs ds fl d Q x c hp k => by
  unfold prLen at hp
  split at hp
  · obtain ⟨u, rfl, c1⟩ := c.one
    split at hp
    · rename_i hl
      cases hp
      exact .inr ⟨_, by rw [c1.str], sz100 hl, k _ _ _ (new_same x rfl)⟩
    · cases hp
  · obtain ⟨u, rfl, c1⟩ := c.one
    split at hp
    · rename_i ds hs
      cases hp
      obtain ⟨p, xs, e, sq, r⟩ := c1.seq x hs
      exact .inl ⟨p, xs, by rw [e], sq, k _ _ _ (new_same x (by rw [r.len]; rfl))⟩
    · cases hp
  · cases hp
/-- list(x), tuple(x) of a list or tuple -/
def prList : Pr
  | [a] => match seqOf a with | some ds => some (true, .lst ds) | none => none
  | _ => none
theorem cv_list : CallV K T (fun xs H Q => ∃ p ys, xs = [.ref p] ∧ (SqL K H p ys ∨ SqT K H p ys) ∧ ∀ l, H l = none → Q (.ref l) (upd H l (.lst ys))) prList := fun G H vs ds fl d Q x c hp k => by
  unfold prList at hp
  split at hp
  · obtain ⟨u, rfl, c1⟩ := c.one
    split at hp
    · rename_i ds hs
      cases hp
      obtain ⟨p, xs, e, sq, r⟩ := c1.seq x hs
      exact ⟨p, xs, by rw [e], sq, fun q hq => k _ _ _ (new_lst x hq r)⟩
    · cases hp
  · cases hp
def prTuple : Pr
  | [.lst ds] => some (false, .tup ds)
  | [.rol ds] => some (false, .tup ds)
  | [.tup ds] => some (false, .tup ds)
  | _ => none
theorem cv_tuple : CallV K T (fun xs H Q => ∃ p ys, xs = [.ref p] ∧ ((SqL K H p ys ∧ ∀ l, H l = none → Q (.ref l) (upd H l (.tup ys))) ∨ (SqT K H p ys ∧ Q (.ref p) H))) prTuple := fun G H vs ds fl d Q x c hp k => by
  unfold prTuple at hp
  split at hp
  · obtain ⟨u, rfl, c1⟩ := c.one
    cases hp
    obtain ⟨p, xs, e, s, r⟩ := c1.lst x
    exact ⟨p, xs, by rw [e], .inl ⟨SqL.of s, fun q hq => k _ _ _ (new_tup x hq r)⟩⟩
  · obtain ⟨u, rfl, c1⟩ := c.one
    cases hp
    obtain ⟨p, xs, e, s, r⟩ := c1.rol x
    exact ⟨p, xs, by rw [e], .inl ⟨s, fun q hq => k _ _ _ (new_tup x hq r)⟩⟩
  · obtain ⟨u, rfl, c1⟩ := c.one
    cases hp
    obtain ⟨p, xs, e, s, r⟩ := c1.tup x
    subst e
    refine ⟨p, xs, rfl, .inr ⟨SqT.of s, k _ _ _ (new_same x ?_)⟩⟩
    rcases c1 with c | ⟨_, _, c⟩
    · exact c
    · exact c.elim
  · cases hp
/-- ints of data -/
def intsOf : List D → Option (List Int)
  | [] => some []
  | .int i :: ds => match intsOf ds with | some l => some (i :: l) | none => none
  | _ :: _ => none
theorem intsOf_rel : ∀ {ds : List D} {ns : List Int} {vs : List V}, intsOf ds = some ns → RepL K T G ds vs → vs = ns.map V.int
  | [], _, _, h, r => by cases h; cases r; rfl
  | .int i :: ds, ns, _, h, ⟨v, r, e, h1, h2⟩ => by
    subst e
    dsimp only [intsOf] at h
    split at h
    · rename_i l hl
      cases h
      rw [List.map_cons, ← intsOf_rel hl h2, show v = V.int i from h1]
    · cases h
  | .non :: _, _, _, h, _ => by cases h
  | .bl _ :: _, _, _, h, _ => by cases h
  | .str _ :: _, _, _, h, _ => by cases h
  | .tup _ :: _, _, _, h, _ => by cases h
  | .lst _ :: _, _, _, h, _ => by cases h
  | .rol _ :: _, _, _, h, _ => by cases h
  | .rot _ :: _, _, _, h, _ => by cases h
  | .dK _ :: _, _, _, h, _ => by cases h
  | .dT _ :: _, _, _, h, _ => by cases h
  | .ins _ _ :: _, _, _, h, _ => by cases h
  | .exc _ _ :: _, _, _, h, _ => by cases h
  | .lam :: _, _, _, h, _ => by cases h
def rSumA (K : PySem.W.Frag) : List V → Hp → VK → Prop := fun vs H Q => ∃ (a : Addr) (ns : List Int), vs = [V.ref a] ∧ (SqL K H a (ns.map V.int) ∨ SqT K H a (ns.map V.int)) ∧ Q (.int ns.sum) H
theorem cr_sumA (hc : X.calm = true) : CallR X (.builtin "sum") (rSumA X.K) := by
  intro pins s σ H vs us Q I r h
  obtain ⟨a, ns, rfl, hs, q⟩ := h
  rcases hs with hs | hs
  · exact cr_sum hc pins s σ H _ us Q I r ⟨a, ns, rfl, hs, q⟩
  · obtain ⟨its, rv, ht, _⟩ := I.tuple hs
    rw [Vals.ref1 r]
    have hi := rv.ints
    obtain ⟨xs, e⟩ := hi.allInts.items
    have hn : numsOf (PySem.intItems xs).toList = ns := by rw [← e]; exact hi.numsOf
    rw [nums_intItems] at hn
    have ht' : s.heap.IsTuple a its.toArray := ht
    rw [e] at ht'
    refine PySem.W.ktm_sumG (I.ok.hd hc) ht' fun h' tk t' hk => ?_
    refine ⟨.int ns.sum, H, I.kept hk, ⟨t', ?_⟩, q⟩
    rw [preSum_eq, List.take_of_length_le (by simp), hn]
def prSum : Pr
  | [a] => match seqOf a with
    | some ds => match intsOf ds with | some ns => some (false, .int ns.sum) | none => none
    | none => none
  | _ => none
theorem cv_sum : CallV K T (rSumA K) prSum := fun G H vs ds fl d Q x c hp k => by
  unfold prSum at hp
  split at hp
  · obtain ⟨u, rfl, c1⟩ := c.one
    split at hp
    · rename_i ds hs
      split at hp
      · rename_i ns hn
        cases hp
        obtain ⟨p, xs, e, sq, r⟩ := c1.seq x hs
        have ev := intsOf_rel hn r
        subst ev
        exact ⟨p, ns, by rw [e], sq, k _ _ _ (new_same x rfl)⟩
      · cases hp
    · cases hp
  · cases hp
end
end Pf
/-! part Pf4 -/
set_option Elab.async false
set_option linter.all false
set_option maxRecDepth 100000
/-! Pf4: calls of defs, methods, classes; fields; the promise of a def by a plain function. -/
namespace Pf
open PySem PySem.Spec PyProof.Rows L2

/-! ### what a def gives -/
inductive FR where
  | ok (fl : Bool) (d : D) (out : D) | ex (x : D) (out : D) | no
abbrev FM := List D → FR
theorem passN {X : Cx} : Passes (L2N.CX X.prog X.w) X E0 := fun _ _ _ _ _ _ _ h => by
  obtain ⟨_, _, _, _, _, _, _, _, _, _, _, _, z⟩ := h
  exact z.elim
/-- an exception's data -/
def ExRep (K : PySem.W.Frag) (T : Tab) (G H : Hp) : D → Value → Option Addr → Prop
  | .ins c fs, cls, some dx => cls = .ref (T.C c) ∧ ∃ vs, H dx = some (.xd ((T.L c).zip vs)) ∧ vs.length = (T.L c).length ∧ RepL K T G fs vs
  | _, _, _ => False
/-- what leaves at X with B's leave is taken -/
class XOk (X : Cx) (B : Bs) : Prop where
  ok : ∃ W : WX, L2N.Takes X W ∧ ∀ (G H : Hp) (σ : L2.St) (ρ : Ve) (x : D) (cls : Value) (d : Option Addr), Sim X.K B G H σ ρ → B.wX x ρ → ExRep X.K B.T G H x cls d → W cls d σ H
/-- the tables are known -/
abbrev MkT (T : Tab) (G : Hp) : Prop := ∀ p ∈ T.tb, G p.1 = some (mkT p.2)
theorem Sim.tbs {K : PySem.W.Frag} {B : Bs} {G H : Hp} {σ : L2.St} {ρ : Ve} (S : Sim K B G H σ ρ) : MkT B.T G := fun p hp => S.g0 _ _ (B.tb p hp)
def spF (K : PySem.W.Frag) (T : Tab) (n : Nat) (m : FM) : Sp := fun vs H Q E => vs.length = n ∧ ∃ (G : Hp) (ds : List D), Exr G H ∧ MkT T G ∧ RepL K T G ds vs ∧ match m ds with
  | .ok fl d _ => ∀ G' H' v, NewOk K T G H G' H' fl v d → Q v H'
  | .ex x _ => ∀ G' H' cls d, Grow G H G' H' → ExRep K T G' H' x cls d → E cls d H'
  | .no => False
/-- the first parameter is changed -/
def spI (K : PySem.W.Frag) (T : Tab) (n : Nat) (m : FM) : Sp := fun vs H Q E => vs.length = n ∧ ∃ (G : Hp) (p : Addr) (d0 : D) (us : List V) (ds : List D), vs = .ref p :: us ∧ Exr G H ∧ MkT T G ∧ Own K T G H p d0 ∧ G p = none ∧ RepL K T G ds us ∧ match m (d0 :: ds) with
  | .ok fl d out => ∀ G' H' v, Ex G G' → Exr G' H' → (∀ a o, G' a = some o → G a = some o ∨ H a = none ∨ isTp o = true) → (∀ a o, a ≠ p → H a = some o → isTb o = false → H' a = some o) → (∀ a, H' a = none → H a = none) → Own K T G' H' p out →
      (if fl = true then ∃ q, v = .ref q ∧ H q = none ∧ G' q = none ∧ Own K T G' H' q d else Rep K T G' d v) → Q v H'
  | .ex x out => ∀ G' H' cls dx, Ex G G' → Exr G' H' → (∀ a o, G' a = some o → G a = some o ∨ H a = none ∨ isTp o = true) → (∀ a o, a ≠ p → H a = some o → isTb o = false → H' a = some o) → (∀ a, H' a = none → H a = none) → Own K T G' H' p out →
      ExRep K T G' H' x cls dx → E cls dx H'
  | .no => False

section
variable {X : Cx} {B : Bs} {K : PySem.W.Frag} {T : Tab} {G G' H H' : Hp} {σ : L2.St} {ρ : Ve} {Q : VK} {v : V} {e : Expr} {es : List Expr}
theorem evOs_len : ∀ {os : List Opd} {ρ ρ1 : Ve} {hs : List Hd}, evOs os ρ = .ok hs ρ1 → hs.length = os.length
  | [], _, _, _, h => by cases h; rfl
  | o :: os, ρ, ρ1, hs, h => by
    dsimp only [evOs] at h
    cases h1 : evO o ρ with
    | ok a ρa =>
      rw [h1] at h
      dsimp only at h
      cases h2 : evOs os ρa with
      | ok l ρb => rw [h2] at h; cases h; rw [List.length_cons, List.length_cons, evOs_len h2]
      | ex _ _ => rw [h2] at h; cases h
      | no => rw [h2] at h; cases h
    | ex _ _ => rw [h1] at h; cases h
    | no => rw [h1] at h; cases h
theorem HdsOk.len : ∀ {vs : List V} {hs : List Hd}, HdsOk K B G σ vs hs → vs.length = hs.length
  | [], [], _ => rfl
  | _ :: _, _ :: _, k => by rw [List.length_cons, List.length_cons, HdsOk.len k.2]
  | [], _ :: _, k => k.elim
  | _ :: _, [], k => k.elim

/-! ### calls, by FnR -/
section
variable {k : Nat} {f C : Addr} {sp : Sp} {x m : Str} {p pos apos : Pos} {o : Expr} {t : TA}
theorem run_R {pins : List (Addr × Obj)} {σ : L2.St} {H : Hp} {s : Shared} {Q : VK} {us : List Value} {vs : List V} (F : FnR X.prog X.w X.K X.mg X.base (L2N.CX X.prog X.w) k f sp) (hr : Room k X.A)
    {W : WX} (tkw : L2N.Takes X W) (I : Inv X pins σ H s) (r : Vals vs us) (h : sp vs H Q (WE W σ)) : wpAny (model X.prog X.w) X.A (call (.ref f) us) (EP X pins σ Q) X.xe s := by
  refine wpAny_call (codeAny_mono (F X.A X.stack s H us vs Q (WE W σ) hr I.env0 r h) fun r s' hq => ?_)
  cases r with
  | error e => exact L2N.passAt tkw σ pins H s e s' I hq
  | ok fl =>
    cases fl with
    | ret u => exact I.after hq
    | next => exact False.elim hq
    | brk => exact False.elim hq
    | cont => exact False.elim hq
theorem pe_R {W : WX} (tkw : L2N.Takes X W) (F : FnR X.prog X.w X.K X.mg X.base (L2N.CX X.prog X.w) k f sp) (hr : Room k X.A) (hg : Gl X x) (hm : X.mg x = some (.ref f)) (hk : PySem.W.keepIn X.K (.ref f) = true)
    (ha : PA X (e :: es) t) (hdb : (x == ("__debug__" : Str)) = false := by decide) (he : starEach (e :: es) X.env = (false, eval e X.env) :: starEach es X.env := by rfl) (hpl : (backTo pos (starEach es X.env)).any (·.1) = false := by rfl) :
    PE X (.Call (.Name x p) (e :: es) [] pos) (fun σ H Q => t σ H fun vs H1 => sp vs H1 Q (WE W σ)) := by
  refine ⟨fun pins s σ H Q I h => ?_⟩
  refine wpAny_Call_Name_kw (ld_glob I hg hm ?_ hdb)
  refine PySem.W.callWith_K (h₀ := X.base) I.ok.mod.kin hk (thn (ha.run pos pins s σ H _ I h) fun us s1 ⟨vs, H1, I1, r, q⟩ => ⟨I1.kIn, ?_⟩) he hpl
  exact run_R F hr tkw I1 r q
theorem pe_R0 {W : WX} (tkw : L2N.Takes X W) (F : FnR X.prog X.w X.K X.mg X.base (L2N.CX X.prog X.w) k f sp) (hr : Room k X.A) (hg : Gl X x) (hm : X.mg x = some (.ref f)) (hk : PySem.W.keepIn X.K (.ref f) = true)
    (hdb : (x == ("__debug__" : Str)) = false := by decide) : PE X (.Call (.Name x p) [] [] pos) (fun σ H Q => sp [] H Q (WE W σ)) := by
  refine ⟨fun pins s σ H Q I h => ?_⟩
  refine wpAny_Call_Name_kw (ld_glob I hg hm ?_ hdb)
  exact PySem.W.callWith_K0 I.kIn hk (run_R (us := []) F hr tkw I .nil h)
theorem pe_MR {W : WX} (tkw : L2N.Takes X W) {pl : Sem Bool} {ta : TE} (he : PE X o ta) (c : Cls X.K C) (hm : Meth X.K C m f) (F : FnR X.prog X.w X.K X.mg X.base (L2N.CX X.prog X.w) k f sp) (hr : Room k X.A) (ha : PA X (e :: es) t)
    (hst : starEach (e :: es) X.env = (false, eval e X.env) :: starEach es X.env := by rfl) (hpl : (backTo pos (starEach es X.env)).any (·.1) = false := by rfl)
    (ht : eval (.Call (.Attribute o m apos) (e :: es) [] pos) X.env = (do
      let ov ← eval o X.env
      standAt apos.atName
      let (f, first) ← holding [ov] (getMethod ov m pl)
      callWith pos f first (backTo pos (starEach (e :: es) X.env)) (backToKw pos (keywordEach [] X.env))) := by rfl) :
    PE X (.Call (.Attribute o m apos) (e :: es) [] pos) (fun σ H Q => ta σ H fun x H1 => ∃ a dx fs, x = .ref a ∧ H1 a = some (.ins C dx fs) ∧ fs.lookup m = none ∧ t σ H1 fun vs H2 => sp (x :: vs) H2 Q (WE W σ)) := by
  refine ⟨fun pins s σ H Q I h => ?_⟩
  refine PySem.W.methodCall_KW (pl := pl) (thn (he.run pins s σ H _ I h) fun u s1 ⟨x, H1, I1, rx, a, dx, fs, ex, ea, l, q⟩ => ?_) ht
  subst ex
  obtain rfl : u = Value.ref a := rx
  refine getmeth_ok I1 ea c hm l ?_
  refine PySem.W.callWith_K (first := [.ref a]) (h₀ := X.base) I.ok.mod.kin hm.kp (thn (ha.run pos pins s1 σ H1 _ I1 q) fun us s2 ⟨vs, H2, I2, r, q2⟩ => ⟨I2.kIn, ?_⟩) hst hpl
  exact run_R (us := .ref a :: us) (vs := .ref a :: vs) F hr tkw I2 (.cons rfl r) q2
theorem pe_MR0 {W : WX} (tkw : L2N.Takes X W) {pl : Sem Bool} {ta : TE} (he : PE X o ta) (c : Cls X.K C) (hm : Meth X.K C m f) (F : FnR X.prog X.w X.K X.mg X.base (L2N.CX X.prog X.w) k f sp) (hr : Room k X.A)
    (ht : eval (.Call (.Attribute o m apos) [] [] pos) X.env = (do
      let ov ← eval o X.env
      standAt apos.atName
      let (f, first) ← holding [ov] (getMethod ov m pl)
      callWith pos f first (backTo pos (starEach [] X.env)) (backToKw pos (keywordEach [] X.env))) := by rfl) :
    PE X (.Call (.Attribute o m apos) [] [] pos) (fun σ H Q => ta σ H fun x H1 => ∃ a dx fs, x = .ref a ∧ H1 a = some (.ins C dx fs) ∧ fs.lookup m = none ∧ sp [x] H1 Q (WE W σ)) := by
  refine ⟨fun pins s σ H Q I h => ?_⟩
  refine PySem.W.methodCall_KW (pl := pl) (thn (he.run pins s σ H _ I h) fun u s1 ⟨x, H1, I1, rx, a, dx, fs, ex, ea, l, q⟩ => ?_) ht
  subst ex
  obtain rfl : u = Value.ref a := rx
  refine getmeth_ok I1 ea c hm l ?_
  exact PySem.W.callWith_K0 (first := [.ref a]) I1.kIn hm.kp (run_R (us := [.ref a]) (vs := [.ref a]) F hr tkw I1 (.cons rfl .nil) q)
/-! keywords: the call with keyword values ws binds as the call with them in the parameters' order -/
/-- f called with positional values and keywords ks keeps sp of the arranged values -/
def FnKw (P : Program) (w : World) (K : PySem.W.Frag) (mg : Str → Option Value) (base : Heap) (CX : CXT) (k : Nat) (f : Addr) (n : Nat) (ks : List Str) (gV : List V → List V → List V) (sp : Sp) : Prop :=
  ∀ (A : Around) (outer : List Env) (s : Shared) (H : Hp) (us ws : List Value) (vs zs : List V) (Q : VK) (E : XK), Room k A → Env0 P w K mg base A outer s H → Vals vs us → Vals zs ws → vs.length = n → zs.length = ks.length → sp (gV vs zs) H Q E →
    codeAny (model P w) A (.call (.ref f) ⟨us, ks.zip ws⟩) (CR CX outer P w H s Q E) s
theorem run_K {pins : List (Addr × Obj)} {σ : L2.St} {H : Hp} {s : Shared} {Q : VK} {us ws : List Value} {vs zs : List V} {n : Nat} {ks : List Str} {gV : List V → List V → List V} (F : FnKw X.prog X.w X.K X.mg X.base (L2N.CX X.prog X.w) k f n ks gV sp) (hr : Room k X.A)
    (I : Inv X pins σ H s) (r : Vals vs us) (rz : Vals zs ws) (h1 : vs.length = n) (h2 : zs.length = ks.length) {W : WX} (tkw : L2N.Takes X W) (h : sp (gV vs zs) H Q (WE W σ)) : wpAny (model X.prog X.w) X.A (call (.ref f) us (ks.zip ws)) (EP X pins σ Q) X.xe s := by
  refine wpAny_call (codeAny_mono (F X.A X.stack s H us ws vs zs Q (WE W σ) hr I.env0 r rz h1 h2 h) fun r s' hq => ?_)
  cases r with
  | error e => exact L2N.passAt tkw σ pins H s e s' I hq
  | ok fl =>
    cases fl with
    | ret u => exact I.after hq
    | next => exact False.elim hq
    | brk => exact False.elim hq
    | cont => exact False.elim hq
theorem pe_RK {W : WX} (tkw : L2N.Takes X W) {n : Nat} {ks : List Str} {gV : List V → List V → List V} {kws : List Keyword} {tk : TA} (F : FnKw X.prog X.w X.K X.mg X.base (L2N.CX X.prog X.w) k f n ks gV sp) (hr : Room k X.A) (hg : Gl X x) (hm : X.mg x = some (.ref f)) (hk : PySem.W.keepIn X.K (.ref f) = true)
    (ha : PA X (e :: es) t) (hkw : PK X kws tk) (hall : (backToKw pos (keywordEach kws X.env)).all (·.1.isSome) = true := by rfl) (hks : (backToKw pos (keywordEach kws X.env)).filterMap (·.1) = ks := by rfl)
    (hdb : (x == ("__debug__" : Str)) = false := by decide) (he : starEach (e :: es) X.env = (false, eval e X.env) :: starEach es X.env := by rfl)
    (hpl : ((backTo pos (starEach (e :: es) X.env)).any (·.1) || (backToKw pos (keywordEach kws X.env)).any (·.1.isNone)) = false := by rfl) :
    PE X (.Call (.Name x p) (e :: es) kws pos) (fun σ H Q => t σ H fun vs H1 => tk σ H1 fun zs H2 => vs.length = n ∧ zs.length = ks.length ∧ sp (gV vs zs) H2 Q (WE W σ)) := by
  refine ⟨fun pins s σ H Q I h => ?_⟩
  refine wpAny_Call_Name_kw (ld_glob I hg hm ?_ hdb)
  refine PySem.W.callWith_KW (h₀ := X.base) I.ok.mod.kin hk hall (thn (ha.run pos pins s σ H _ I h) fun us s1 ⟨vs, H1, I1, r, q⟩ => ?_) hpl he
  refine thn (hkw.run pos pins s1 σ H1 _ I1 q) fun ws s2 ⟨zs, H2, I2, rz, l1, l2, q2⟩ => ⟨I2.kIn, ?_⟩
  rw [hks]
  exact run_K F hr I2 r rz l1 l2 tkw q2
theorem pe_RK0 {W : WX} (tkw : L2N.Takes X W) {ks : List Str} {gV : List V → List V → List V} {kws : List Keyword} {tk : TA} (F : FnKw X.prog X.w X.K X.mg X.base (L2N.CX X.prog X.w) k f 0 ks gV sp) (hr : Room k X.A) (hg : Gl X x) (hm : X.mg x = some (.ref f)) (hk : PySem.W.keepIn X.K (.ref f) = true)
    (hkw : PK X kws tk) (hall : (backToKw pos (keywordEach kws X.env)).all (·.1.isSome) = true := by rfl) (hks : (backToKw pos (keywordEach kws X.env)).filterMap (·.1) = ks := by rfl)
    (hdb : (x == ("__debug__" : Str)) = false := by decide) (hpl : ((backTo pos (starEach [] X.env)).any (·.1) || (backToKw pos (keywordEach kws X.env)).any (·.1.isNone)) = false := by rfl) :
    PE X (.Call (.Name x p) [] kws pos) (fun σ H Q => tk σ H fun zs H2 => zs.length = ks.length ∧ sp (gV [] zs) H2 Q (WE W σ)) := by
  refine ⟨fun pins s σ H Q I h => ?_⟩
  refine wpAny_Call_Name_kw (ld_glob I hg hm ?_ hdb)
  refine PySem.W.callWith_KW0 (h₀ := X.base) I.ok.mod.kin hk hall ?_ hpl
  refine thn (hkw.run pos pins s σ H _ I h) fun ws s2 ⟨zs, H2, I2, rz, l2, q2⟩ => ⟨I2.kIn, ?_⟩
  rw [hks]
  exact run_K (us := []) F hr I2 .nil rz rfl l2 tkw q2
theorem pe_MRK0 {W : WX} (tkw : L2N.Takes X W) {ks : List Str} {gV : List V → List V → List V} {kws : List Keyword} {tk : TA} {pl : Sem Bool} {ta : TE} (he : PE X o ta) (c : Cls X.K C) (hm : Meth X.K C m f) (F : FnKw X.prog X.w X.K X.mg X.base (L2N.CX X.prog X.w) k f 1 ks gV sp) (hr : Room k X.A) (hkw : PK X kws tk)
    (hall : (backToKw pos (keywordEach kws X.env)).all (·.1.isSome) = true := by rfl) (hks : (backToKw pos (keywordEach kws X.env)).filterMap (·.1) = ks := by rfl)
    (hpl : ((backTo pos (starEach [] X.env)).any (·.1) || (backToKw pos (keywordEach kws X.env)).any (·.1.isNone)) = false := by rfl)
    (ht : eval (.Call (.Attribute o m apos) [] kws pos) X.env = (do
      let ov ← eval o X.env
      standAt apos.atName
      let (f, first) ← holding [ov] (getMethod ov m pl)
      callWith pos f first (backTo pos (starEach [] X.env)) (backToKw pos (keywordEach kws X.env))) := by rfl) :
    PE X (.Call (.Attribute o m apos) [] kws pos) (fun σ H Q => ta σ H fun x H1 => ∃ a dx fs, x = .ref a ∧ H1 a = some (.ins C dx fs) ∧ fs.lookup m = none ∧ tk σ H1 fun zs H2 => zs.length = ks.length ∧ sp (gV [x] zs) H2 Q (WE W σ)) := by
  refine ⟨fun pins s σ H Q I h => ?_⟩
  refine PySem.W.methodCall_KW (pl := pl) (thn (he.run pins s σ H _ I h) fun u s1 ⟨x, H1, I1, rx, a, dx, fs, ex, ea, l, q⟩ => ?_) ht
  subst ex
  obtain rfl : u = Value.ref a := rx
  refine getmeth_ok I1 ea c hm l ?_
  refine PySem.W.callWith_KW0 (first := [.ref a]) (h₀ := X.base) I.ok.mod.kin hm.kp hall ?_ hpl
  refine thn (hkw.run pos pins s1 σ H1 _ I1 q) fun ws s2 ⟨zs, H2, I2, rz, l2, q2⟩ => ⟨I2.kIn, ?_⟩
  rw [hks]
  exact run_K (us := [.ref a]) (vs := [.ref a]) F hr I2 (.cons rfl .nil) rz rfl l2 tkw q2
end

/-! ### plain calls -/
def fCall (m : FM) (os : List Opd) : EF := fun ρ => match evOs os ρ with
  | .ok hs ρ1 => match vals hs with
    | some ds => match m ds with
      | .ok fl d _ => .ok fl d ρ1
      | .ex x _ => .ex x ρ1
      | .no => .no
    | none => .no
  | .ex x ρ1 => .ex x ρ1
  | .no => .no
theorem call_read {m : FM} {os : List Opd} {n : Nat} {W : WX} (hW : ∀ (G H : Hp) (ρ : Ve) (x : D) (cls : Value) (d : Option Addr), Sim K B G H σ ρ → B.wX x ρ → ExRep K B.T G H x cls d → W cls d σ H) (S : Sim K B G H σ ρ) (q : PostE K B G σ Q (fCall m os ρ)) (hn : os.length = n) : tOs K B os σ H fun vs H1 => spF K B.T n m vs H1 Q (WE W σ) := by
  refine tOs_run S ?_
  dsimp only [fCall] at q
  cases h1 : evOs os ρ with
  | ok hs ρ1 =>
    rw [h1] at q
    intro G1 H1 vs e1 S1 k1
    dsimp only at q
    cases h2 : vals hs with
    | none => rw [h2] at q; exact q.elim
    | some ds =>
      rw [h2] at q
      refine ⟨by rw [k1.len, evOs_len h1, hn], G1, ds, S1.ex, S1.tbs, vals_ok k1 h2, ?_⟩
      dsimp only at q
      cases h3 : m ds with
      | ok fl d out =>
        rw [h3] at q
        exact fun G' H' v nw => q G' H' v (e1.trans nw.1.e) (S1.grow nw.1) (nw.val S1)
      | ex x out => rw [h3] at q; exact fun G' H' cls d gr er => hW G' H' ρ1 x cls d (S1.grow gr) q er
      | no => rw [h3] at q; exact q
  | ex x ρ1 => rw [h1] at q; exact q
  | no => rw [h1] at q; exact q
theorem pe_fCall [xk : XOk X B] {k : Nat} {f : Addr} {m : FM} {n : Nat} {os : List Opd} {x : Str} {p pos : Pos} (F : FnR X.prog X.w X.K X.mg X.base (L2N.CX X.prog X.w) k f (spF X.K B.T n m)) (hr : Room k X.A) (hg : Gl X x) (hm : X.mg x = some (.ref f)) (hk : PySem.W.keepIn X.K (.ref f) = true)
    (ha : PA X (e :: es) (tOs X.K B os)) (hn : os.length = n := by rfl) (hdb : (x == ("__debug__" : Str)) = false := by decide) (he : starEach (e :: es) X.env = (false, eval e X.env) :: starEach es X.env := by rfl) (hpl : (backTo pos (starEach es X.env)).any (·.1) = false := by rfl) :
    PE X (.Call (.Name x p) (e :: es) [] pos) (tF X.K B (fCall m os)) :=
  xk.ok.elim fun W h => PE.imp (pe_R h.1 F hr hg hm hk ha hdb he hpl) fun σ H Q ⟨G, ρ, S, q⟩ => call_read (fun G H ρ => h.2 G H σ ρ) S q hn
theorem pe_fCall0 [xk : XOk X B] {k : Nat} {f : Addr} {m : FM} {x : Str} {p pos : Pos} (F : FnR X.prog X.w X.K X.mg X.base (L2N.CX X.prog X.w) k f (spF X.K B.T 0 m)) (hr : Room k X.A) (hg : Gl X x) (hm : X.mg x = some (.ref f)) (hk : PySem.W.keepIn X.K (.ref f) = true)
    (hdb : (x == ("__debug__" : Str)) = false := by decide) : PE X (.Call (.Name x p) [] [] pos) (tF X.K B (fCall m [])) :=
  xk.ok.elim fun W h => PE.imp (pe_R0 h.1 F hr hg hm hk hdb) fun σ H Q ⟨G, ρ, S, q⟩ => call_read (os := []) (fun G H ρ => h.2 G H σ ρ) S q rfl
/-! with keywords: g arranges the data, gV the values -/
structure Arr (g : List D → List D → List D) (gV : List V → List V → List V) : Prop where
  rel : ∀ {K T G ds vs es us}, RepL K T G ds vs → RepL K T G es us → RepL K T G (g ds es) (gV vs us)
def fCallK (m : FM) (g : List D → List D → List D) (os ks : List Opd) : EF := fun ρ => match evOs os ρ with
  | .ok hs ρ1 => match vals hs with
    | some ds => match evOs ks ρ1 with
      | .ok hk ρ2 => match vals hk with
        | some es => match m (g ds es) with
          | .ok fl d _ => .ok fl d ρ2
          | .ex x _ => .ex x ρ2
          | .no => .no
        | none => .no
      | .ex x ρ2 => .ex x ρ2
      | .no => .no
    | none => .no
  | .ex x ρ1 => .ex x ρ1
  | .no => .no
theorem callK_read {m : FM} {g : List D → List D → List D} {gV : List V → List V → List V} {os ks : List Opd} {n n1 n2 : Nat} {W : WX} (hW : ∀ (G H : Hp) (ρ : Ve) (x : D) (cls : Value) (d : Option Addr), Sim K B G H σ ρ → B.wX x ρ → ExRep K B.T G H x cls d → W cls d σ H) (ar : Arr g gV) (S : Sim K B G H σ ρ) (q : PostE K B G σ Q (fCallK m g os ks ρ)) (hn1 : os.length = n1) (hn2 : ks.length = n2)
    (hg : ∀ vs zs : List V, vs.length = n1 → zs.length = n2 → (gV vs zs).length = n) :
    tOs K B os σ H fun vs H1 => tOs K B ks σ H1 fun zs H2 => vs.length = n1 ∧ zs.length = n2 ∧ spF K B.T n m (gV vs zs) H2 Q (WE W σ) := by
  refine tOs_run S ?_
  dsimp only [fCallK] at q
  cases h1 : evOs os ρ with
  | ok hs ρ1 =>
    rw [h1] at q
    intro G1 H1 vs e1 S1 k1
    dsimp only at q
    cases h2 : vals hs with
    | none => rw [h2] at q; exact q.elim
    | some ds =>
      rw [h2] at q
      refine tOs_run S1 ?_
      dsimp only at q
      cases h4 : evOs ks ρ1 with
      | ok hk ρ2 =>
        rw [h4] at q
        intro G2 H2 zs e2 S2 k2
        dsimp only at q
        cases h5 : vals hk with
        | none => rw [h5] at q; exact q.elim
        | some es' =>
          rw [h5] at q
          have l1 : vs.length = n1 := by rw [k1.len, evOs_len h1, hn1]
          have l2 : zs.length = n2 := by rw [k2.len, evOs_len h4, hn2]
          refine ⟨l1, l2, hg vs zs l1 l2, G2, g ds es', S2.ex, S2.tbs, ar.rel ((vals_ok k1 h2).mono e2) (vals_ok k2 h5), ?_⟩
          dsimp only at q
          cases h3 : m (g ds es') with
          | ok fl d out =>
            rw [h3] at q
            exact fun G' H' v nw => q G' H' v ((e1.trans e2).trans nw.1.e) (S2.grow nw.1) (nw.val S2)
          | ex x out => rw [h3] at q; exact fun G' H' cls d gr er => hW G' H' ρ2 x cls d (S2.grow gr) q er
          | no => rw [h3] at q; exact q
      | ex x ρ2 => rw [h4] at q; exact q
      | no => rw [h4] at q; exact q
  | ex x ρ1 => rw [h1] at q; exact q
  | no => rw [h1] at q; exact q

/-! ### a call that changes its first argument, a name -/
theorem Sim.io (S : Sim K B G H σ ρ) {i : Nat} {fl : Fl} {d0 d1 : D} {p : Addr} (hi : ρ[i]? = some (some (fl, d0))) (hn : fl ≠ .fz) (hp : σ[i]? = some (some (.ref p))) (e : Ex G G') (x : Exr G' H') (n : ∀ a o, G' a = some o → G a = some o ∨ H a = none ∨ isTp o = true)
    (f : ∀ a o, a ≠ p → H a = some o → isTb o = false → H' a = some o) (m : ∀ a, H' a = none → H a = none) (out : Own K B.T G' H' p d1) : Sim K B G' H' σ (ρ.set i (some (fl, d1))) := by
  obtain ⟨v0, ev0, sk⟩ := S.sl i fl d0 hi
  rw [hp] at ev0; cases ev0
  have hlt : i < ρ.length := (List.getElem?_eq_some_iff.mp hi).1
  have own0 : Own K B.T G H p d0 ∧ G p = none ∧ (B.H0 p = none ∨ B.M p) := by
    cases fl with
    | fz => exact absurd rfl hn
    | ow => obtain ⟨q, eq, ho, hg, h0⟩ := sk; cases eq; exact ⟨ho, hg, .inl h0⟩
    | bo => obtain ⟨q, eq, ho, hg, h0⟩ := sk; cases eq; exact ⟨ho, hg, .inr h0⟩
  obtain ⟨ho0, hg0, hm0⟩ := own0
  have gnone : ∀ q, G q = none → (∃ o, H q = some o) → (∃ o, H' q = some o ∧ isTp o = false) → G' q = none := fun q hq ⟨o, ho⟩ ⟨o', ho', ht⟩ => by
    cases z : G' q with
    | none => rfl
    | some u => rcases n q u z with w | w | w
                · rw [hq] at w; cases w
                · rw [ho] at w; cases w
                · exact (tp_no x z w ho' ht).elim
  have outn : ∃ o, H' p = some o ∧ isTp o = false := by obtain ⟨o, ho⟩ := out.has; exact ⟨o, ho, out.ntp ho⟩
  refine ⟨x, fun a o h => ?_, S.g0.trans e, fun a o h nt nm => ?_, fun a h => S.al a (m a h), by rw [List.length_set]; exact S.len, fun j fl' d' hj => ?_, fun j k q f1 d1' f2 d2 hj hk n1 n2 s1 s2 => ?_⟩
  · rcases n a o h with z | z | z
    · exact S.new a o z
    · exact .inr (.inl (S.al a z))
    · exact .inr (.inr z)
  · have ne : a ≠ p := fun z => by
      subst z
      rcases hm0 with z | z
      · rw [h] at z; cases z
      · exact nm z
    exact f a o ne (S.fr a o h nt nm) nt
  · by_cases hij : i = j
    · subst hij
      rw [List.getElem?_set_self hlt] at hj; cases hj
      refine ⟨_, hp, ?_⟩
      cases fl with
      | fz => exact absurd rfl hn
      | ow => obtain ⟨q, eq, ho, hg, h0⟩ := sk; cases eq; exact ⟨_, rfl, out, gnone _ hg0 ho0.has outn, h0⟩
      | bo => obtain ⟨q, eq, ho, hg, h0⟩ := sk; cases eq; exact ⟨_, rfl, out, gnone _ hg0 ho0.has outn, h0⟩
    · rw [List.getElem?_set_ne hij] at hj
      obtain ⟨v, ev, k⟩ := S.sl j fl' d' hj
      refine ⟨v, ev, ?_⟩
      have keep : ∀ q, fl' ≠ .fz → v = .ref q → Own K B.T G H q d' → Own K B.T G' H' q d' := fun q hn' eq ho => by
        have ne : q ≠ p := fun z => hij (S.dis i j p _ _ _ _ hi hj hn hn' hp (by rw [ev, eq, z]))
        obtain ⟨o, hq⟩ := ho.has
        exact ho.mono e ((f q o ne hq (ho.ntb hq)).trans hq.symm)
      cases fl' with
      | fz => exact Rep.mono e k
      | ow => obtain ⟨q, eq, ho, hg, h0⟩ := k; exact ⟨q, eq, keep q (by decide) eq ho, gnone q hg ho.has (let k := keep q (by decide) eq ho; let ⟨o, z⟩ := k.has; ⟨o, z, k.ntp z⟩), h0⟩
      | bo => obtain ⟨q, eq, ho, hg, h0⟩ := k; exact ⟨q, eq, keep q (by decide) eq ho, gnone q hg ho.has (let k := keep q (by decide) eq ho; let ⟨o, z⟩ := k.has; ⟨o, z, k.ntp z⟩), h0⟩
  · have un : ∀ (j : Nat) f1 d1', (ρ.set i (some (fl, d1)))[j]? = some (some (f1, d1')) → ∃ d2, ρ[j]? = some (some (f1, d2)) := fun j f1 d1' h => by
      by_cases hij : i = j
      · subst hij; rw [List.getElem?_set_self hlt] at h; cases h; exact ⟨_, hi⟩
      · rw [List.getElem?_set_ne hij] at h; exact ⟨_, h⟩
    obtain ⟨a1, b1⟩ := un j _ _ hj
    obtain ⟨a2, b2⟩ := un k _ _ hk
    exact S.dis j k q _ _ _ _ b1 b2 n1 n2 s1 s2
def fCallI (m : FM) (i : Nat) (os : List Opd) : EF := fun ρ => match ρ[i]? with
  | some (some _) => match evOs os ρ with
    | .ok hs ρ1 => match vals hs, ρ1[i]? with
      | some ds, some (some (.ow, d0)) => match m (d0 :: ds) with
        | .ok fl d out => .ok fl d (ρ1.set i (some (.ow, out)))
        | .ex x out => .ex x (ρ1.set i (some (.ow, out)))
        | .no => .no
      | some ds, some (some (.bo, d0)) => match m (d0 :: ds) with
        | .ok fl d out => .ok fl d (ρ1.set i (some (.bo, out)))
        | .ex x out => .ex x (ρ1.set i (some (.bo, out)))
        | .no => .no
      | _, _ => .no
    | .ex x ρ1 => .ex x ρ1
    | .no => .no
  | _ => .no
theorem io_step {W : WX} (hW : ∀ (G H : Hp) (ρ : Ve) (x : D) (cls : Value) (d : Option Addr), Sim K B G H σ ρ → B.wX x ρ → ExRep K B.T G H x cls d → W cls d σ H) {m : FM} {i : Nat} {G1 H1 : Hp} {ρ1 : Ve} {us : List V} {ds : List D} {n : Nat} {fl : Fl} {d0 : D} {v0 : V} (e1 : Ex G G1) (S1 : Sim K B G1 H1 σ ρ1) (r : RepL K B.T G1 ds us) (hi : ρ1[i]? = some (some (fl, d0))) (hn : fl ≠ .fz) (hv : σ[i]? = some (some v0)) (hl : us.length + 1 = n)
    (q : PostE K B G σ Q (match m (d0 :: ds) with | .ok fl' d out => .ok fl' d (ρ1.set i (some (fl, out))) | .ex x out => .ex x (ρ1.set i (some (fl, out))) | .no => .no)) : spI K B.T n m (v0 :: us) H1 Q (WE W σ) := by
  obtain ⟨v, ev, sk⟩ := S1.sl i fl d0 hi
  rw [hv] at ev; cases ev
  have own0 : ∃ p, v0 = .ref p ∧ Own K B.T G1 H1 p d0 ∧ G1 p = none := by
    cases fl with
    | fz => exact absurd rfl hn
    | ow => obtain ⟨p, e, ho, hg, _⟩ := sk; exact ⟨p, e, ho, hg⟩
    | bo => obtain ⟨p, e, ho, hg, _⟩ := sk; exact ⟨p, e, ho, hg⟩
  obtain ⟨p, e, ho, hg⟩ := own0
  subst e
  refine ⟨by rw [List.length_cons]; exact hl, G1, p, d0, us, ds, rfl, S1.ex, S1.tbs, ho, hg, r, ?_⟩
  cases h3 : m (d0 :: ds) with
  | ok fl' d out =>
    rw [h3] at q
    intro G' H' v e x nw f nn own res
    have S' := S1.io hi hn hv e x nw f nn own
    refine q G' H' v (e1.trans e) S' ?_
    cases fl' with
    | false => exact res
    | true =>
      obtain ⟨t, et, ht, hgt, hot⟩ := res
      refine ⟨t, et, hot, hgt, S1.al t ht, fun j f1 d1 hj n1 sj => ?_⟩
      have hlt : i < ρ1.length := (List.getElem?_eq_some_iff.mp hi).1
      have un : ∃ d2, ρ1[j]? = some (some (f1, d2)) := by
        by_cases hij : i = j
        · subst hij; rw [List.getElem?_set_self hlt] at hj; cases hj; exact ⟨_, hi⟩
        · rw [List.getElem?_set_ne hij] at hj; exact ⟨_, hj⟩
      obtain ⟨d2, hj2⟩ := un
      obtain ⟨u, e1, z⟩ := S1.sl j f1 d2 hj2
      rw [sj] at e1; cases e1
      cases f1 with
      | fz => exact n1 rfl
      | ow => obtain ⟨w, ew, how, _⟩ := z; cases ew; obtain ⟨o, h⟩ := how.has; rw [ht] at h; cases h
      | bo => obtain ⟨w, ew, how, _⟩ := z; cases ew; obtain ⟨o, h⟩ := how.has; rw [ht] at h; cases h
  | ex x out => rw [h3] at q; exact fun G' H' cls dx e x' nw f nn own er => hW G' H' _ x cls dx (S1.io hi hn hv e x' nw f nn own) q er
  | no => rw [h3] at q; exact q
theorem callI_read {W : WX} (hW : ∀ (G H : Hp) (ρ : Ve) (x : D) (cls : Value) (d : Option Addr), Sim K B G H σ ρ → B.wX x ρ → ExRep K B.T G H x cls d → W cls d σ H) {m : FM} {i : Nat} {os : List Opd} {n : Nat} (S : Sim K B G H σ ρ) (q : PostE K B G σ Q (fCallI m i os ρ)) (hn : os.length + 1 = n) : tCons (tVar i) (tOs K B os) σ H fun vs H1 => spI K B.T n m vs H1 Q (WE W σ) := by
  dsimp only [fCallI] at q
  split at q
  · rename_i sl hsl
    obtain ⟨fl, d⟩ := sl
    obtain ⟨v0, hv, _⟩ := S.sl i fl d hsl
    refine ⟨v0, hv, ?_⟩
    refine tOs_run S ?_
    cases h1 : evOs os ρ with
    | ok hs ρ1 =>
      rw [h1] at q
      intro G1 H1 us e1 S1 k1
      have hl : us.length + 1 = n := by rw [k1.len, evOs_len h1, hn]
      dsimp only at q
      split at q
      · rename_i ds d0 h2 h3
        exact io_step hW e1 S1 (vals_ok k1 h2) h3 (by decide) hv hl q
      · rename_i ds d0 h2 h3
        exact io_step hW e1 S1 (vals_ok k1 h2) h3 (by decide) hv hl q
      · exact q.elim
    | ex x ρ1 => rw [h1] at q; exact q
    | no => rw [h1] at q; exact q
  · exact q.elim
theorem pe_fCallI [xk : XOk X B] {k : Nat} {f : Addr} {m : FM} {n i : Nat} {os : List Opd} {x : Str} {p pos : Pos} (F : FnR X.prog X.w X.K X.mg X.base (L2N.CX X.prog X.w) k f (spI X.K B.T n m)) (hr : Room k X.A) (hg : Gl X x) (hm : X.mg x = some (.ref f)) (hk : PySem.W.keepIn X.K (.ref f) = true)
    (ha : PE X e (tVar i)) (has : PA X es (tOs X.K B os)) (hn : os.length + 1 = n := by rfl) (hdb : (x == ("__debug__" : Str)) = false := by decide) (he : starEach (e :: es) X.env = (false, eval e X.env) :: starEach es X.env := by rfl) (hpl : (backTo pos (starEach es X.env)).any (·.1) = false := by rfl) :
    PE X (.Call (.Name x p) (e :: es) [] pos) (tF X.K B (fCallI m i os)) :=
  xk.ok.elim fun W h => PE.imp (pe_R h.1 F hr hg hm hk (pa_cons ha has he) hdb he hpl) fun σ H Q ⟨G, ρ, S, q⟩ => callI_read (fun G H ρ => h.2 G H σ ρ) S q hn
end
end Pf
/-! part Pf5 -/
set_option Elab.async false
set_option linter.all false
set_option maxRecDepth 100000
/-! Pf5: statements. -/
namespace Pf
open PySem PySem.Spec PyProof.Rows L2

inductive SR where
  | nx (ρ : Ve) | rt (fl : Bool) (d : D) (ρ : Ve) | br (ρ : Ve) | ct (ρ : Ve) | ex (x : D) (ρ : Ve) | no
abbrev SF := Ve → SR
def PostS (K : PySem.W.Frag) (B : Bs) (G : Hp) (D : Ends) : SR → Prop
  | .nx ρ => ∀ G' H' σ', Ex G G' → Sim K B G' H' σ' ρ → D.nx σ' H'
  | .rt fl d ρ => ∀ G' H' σ' v, Ex G G' → Sim K B G' H' σ' ρ → ValOk K B G' H' σ' ρ fl v d → D.rt v H'
  | .br ρ => ∀ G' H' σ', Ex G G' → Sim K B G' H' σ' ρ → D.bk σ' H'
  | .ct ρ => ∀ G' H' σ', Ex G G' → Sim K B G' H' σ' ρ → D.ct σ' H'
  | .ex x ρ => B.wX x ρ
  | .no => False
def tS (K : PySem.W.Frag) (B : Bs) (f : SF) : TS := fun D σ H => ∃ G ρ, Sim K B G H σ ρ ∧ PostS K B G D (f ρ)

section
variable {X : Cx} {B : Bs} {K : PySem.W.Frag} {T : Tab} {G G' H H' : Hp} {σ σ' : L2.St} {ρ : Ve} {Q : VK} {v : V} {e : Expr} {es : List Expr} {st : Stmt} {rest : List Stmt} {Dn : Ends}
theorem PS.imp {t t' : TS} (h : PS X st t) (k : ∀ D σ H, t' D σ H → t D σ H) : PS X st t' := ⟨fun pins s σ H D I q => h.run pins s σ H D I (k D σ H q)⟩
theorem PSs.imp {sts : List Stmt} {t t' : TS} (h : PSs X sts t) (k : ∀ D σ H, t' D σ H → t D σ H) : PSs X sts t' := ⟨fun pins s σ H D I q => h.run pins s σ H D I (k D σ H q)⟩
theorem PS.or {t t' : TS} (h : PS X st t) (h' : PS X st t') : PS X st (fun D σ H => t D σ H ∨ t' D σ H) := ⟨fun pins s σ H D I q => q.elim (h.run pins s σ H D I) (h'.run pins s σ H D I)⟩
theorem PostS.mono (e : Ex G G') {r : SR} (h : PostS K B G Dn r) : PostS K B G' Dn r := by
  cases r with
  | nx ρ => exact fun G2 H2 σ2 e2 S2 => h G2 H2 σ2 (e.trans e2) S2
  | rt fl d ρ => exact fun G2 H2 σ2 v e2 S2 k => h G2 H2 σ2 v (e.trans e2) S2 k
  | br ρ => exact fun G2 H2 σ2 e2 S2 => h G2 H2 σ2 (e.trans e2) S2
  | ct ρ => exact fun G2 H2 σ2 e2 S2 => h G2 H2 σ2 (e.trans e2) S2
  | ex x ρ => exact h
  | no => exact h
def sSeq (f g : SF) : SF := fun ρ => match f ρ with
  | .nx ρ1 => g ρ1
  | r => r
def sNx : SF := fun ρ => .nx ρ
theorem pss_n : PSs X [] (tS X.K B sNx) := PSs.imp pss_nil fun D σ H ⟨G, ρ, S, q⟩ => q G H σ (Ex.refl _) S
theorem pss_1 {f : SF} (h : PS X st (tS X.K B f)) : PSs X [st] (tS X.K B f) := pss_one h
theorem pss_c {f g : SF} (h1 : PS X st (tS X.K B f)) (h2 : PSs X rest (tS X.K B g)) : PSs X (st :: rest) (tS X.K B (sSeq f g)) := PSs.imp (pss_cons h1 h2) fun D σ H ⟨G, ρ, S, q⟩ => by
  refine ⟨G, ρ, S, ?_⟩
  dsimp only [sSeq] at q
  cases h : f ρ with
  | nx ρ1 => rw [h] at q; exact fun G1 H1 σ1 e1 S1 => ⟨G1, ρ1, S1, q.mono e1⟩
  | rt fl d ρ1 => rw [h] at q; exact q
  | br ρ1 => rw [h] at q; exact q
  | ct ρ1 => rw [h] at q; exact q
  | ex x ρ1 => rw [h] at q; exact q
  | no => rw [h] at q; exact q
def sPass : SF := fun ρ => .nx ρ
def sBrk : SF := fun ρ => .br ρ
def sCnt : SF := fun ρ => .ct ρ
def sNo : SF := fun _ => .no
theorem ps_pa {pos} : PS X (.Pass pos) (tS X.K B sPass) := PS.imp ps_pass fun D σ H ⟨G, ρ, S, q⟩ => q G H σ (Ex.refl _) S
theorem ps_br {pos} : PS X (.Break pos) (tS X.K B sBrk) := PS.imp ps_break fun D σ H ⟨G, ρ, S, q⟩ => q G H σ (Ex.refl _) S
theorem ps_ct {pos} : PS X (.Continue pos) (tS X.K B sCnt) := PS.imp ps_continue fun D σ H ⟨G, ρ, S, q⟩ => q G H σ (Ex.refl _) S
theorem ps_no : PS X st (tS X.K B sNo) := PS.imp ps_never fun D σ H ⟨G, ρ, S, q⟩ => q
theorem pss_no {sts : List Stmt} : PSs X sts (tS X.K B sNo) := PSs.imp pss_never fun D σ H ⟨G, ρ, S, q⟩ => q
def sDrop (f : EF) : SF := fun ρ => match f ρ with
  | .ok _ _ ρ1 => .nx ρ1
  | .ex x ρ1 => .ex x ρ1
  | .no => .no
theorem ps_dr {f : EF} {pos} (h : PE X e (tF X.K B f)) (hs : swapsWith e none pos.line X.env = pure false := by rfl) : PS X (.Expr e pos) (tS X.K B (sDrop f)) := PS.imp (ps_expr h hs) fun D σ H ⟨G, ρ, S, q⟩ => by
  refine ⟨G, ρ, S, ?_⟩
  dsimp only [sDrop] at q
  cases h : f ρ with
  | ok fl d ρ1 => rw [h] at q; exact fun G1 H1 v e1 S1 _ => q G1 H1 σ e1 S1
  | ex x ρ1 => rw [h] at q; exact q
  | no => rw [h] at q; exact q
def sRet (f : EF) : SF := fun ρ => match f ρ with
  | .ok fl d ρ1 => .rt fl d ρ1
  | .ex x ρ1 => .ex x ρ1
  | .no => .no
theorem ps_rt {f : EF} {pos} (h : PE X e (tF X.K B f)) : PS X (.Return (some e) pos) (tS X.K B (sRet f)) := PS.imp (ps_ret h) fun D σ H ⟨G, ρ, S, q⟩ => by
  refine ⟨G, ρ, S, ?_⟩
  dsimp only [sRet] at q
  cases h : f ρ with
  | ok fl d ρ1 => rw [h] at q; exact fun G1 H1 v e1 S1 k => q G1 H1 σ v e1 S1 k
  | ex x ρ1 => rw [h] at q; exact q
  | no => rw [h] at q; exact q
def sRetN : SF := fun ρ => .rt false .non ρ
theorem ps_rtN {pos} : PS X (.Return none pos) (tS X.K B sRetN) := PS.imp ps_retN fun D σ H ⟨G, ρ, S, q⟩ => q G H σ .non (Ex.refl _) S rfl
/-- return of a name: an own object goes out as it is -/
def sRetV (i : Nat) : SF := fun ρ => match ρ[i]? with
  | some (some (.fz, d)) => .rt false d ρ
  | some (some (.ow, d)) => .rt true d (ρ.set i none)
  | _ => .no
theorem Sim.forget (S : Sim K B G H σ ρ) (i : Nat) : Sim K B G H σ (ρ.set i none) := by
  refine ⟨S.ex, S.new, S.g0, S.fr, S.al, by rw [List.length_set]; exact S.len, fun j fl d h => ?_, fun j k p f1 d1 f2 d2 h1 h2 n1 n2 s1 s2 => ?_⟩
  · by_cases hij : i = j
    · subst hij
      by_cases hl : i < ρ.length
      · rw [List.getElem?_set_self hl] at h; cases h
      · rw [List.getElem?_eq_none_iff.mpr (by rw [List.length_set]; omega)] at h; cases h
    · rw [List.getElem?_set_ne hij] at h; exact S.sl j fl d h
  · have un : ∀ (j : Nat) f1 d1, (ρ.set i none)[j]? = some (some (f1, d1)) → ρ[j]? = some (some (f1, d1)) := fun j f1 d1 h => by
      by_cases hij : i = j
      · subst hij
        by_cases hl : i < ρ.length
        · rw [List.getElem?_set_self hl] at h; cases h
        · rw [List.getElem?_eq_none_iff.mpr (by rw [List.length_set]; omega)] at h; cases h
      · rw [List.getElem?_set_ne hij] at h; exact h
    exact S.dis j k p _ _ _ _ (un _ _ _ h1) (un _ _ _ h2) n1 n2 s1 s2
theorem ps_rtV {i : Nat} {pos} (h : PE X e (tVar i)) : PS X (.Return (some e) pos) (tS X.K B (sRetV i)) := PS.imp (ps_ret h) fun D σ H ⟨G, ρ, S, q⟩ => by
  dsimp only [sRetV] at q
  split at q
  · rename_i d hx
    obtain ⟨v, e, k⟩ := S.sl i _ _ hx
    exact ⟨v, e, q G H σ v (Ex.refl _) S k⟩
  · rename_i d hx
    obtain ⟨v, e, p, ev, ho, hg, h0⟩ := S.sl i _ _ hx
    refine ⟨v, e, q G H σ v (Ex.refl _) (S.forget i) ⟨p, ev, ho, hg, h0, fun j f1 d1 hj n1 sj => ?_⟩⟩
    by_cases hij : i = j
    · subst hij; rw [List.getElem?_set_self (List.getElem?_eq_some_iff.mp hx).1] at hj; cases hj
    · rw [List.getElem?_set_ne hij] at hj
      exact hij (S.dis i j p _ _ _ _ hx hj (by decide) n1 (by rw [e, ev]) sj)
  · exact q.elim
/-! if -/
def sIf (t : TFn) (f g : SF) : SF := fun ρ => match t ρ with
  | .ok true ρ1 => f ρ1
  | .ok false ρ1 => g ρ1
  | .ex x ρ1 => .ex x ρ1
  | .no => .no
theorem ps_iff {c : Expr} {a b : List Stmt} {t : TFn} {f g : SF} {pos} (hc : PT X c (tT X.K B t)) (ha : PSs X a (tS X.K B f)) (hb : PSs X b (tS X.K B g)) : PS X (.If c a b pos) (tS X.K B (sIf t f g)) := PS.imp (ps_if hc ha hb) fun D σ H ⟨G, ρ, S, q⟩ => by
  refine ⟨G, ρ, S, ?_⟩
  dsimp only [sIf] at q
  cases h : t ρ with
  | ok c ρ1 =>
    rw [h] at q
    intro G1 H1 e1 S1
    cases c with
    | true => rw [if_pos rfl]; exact ⟨G1, ρ1, S1, q.mono e1⟩
    | false => rw [if_neg Bool.false_ne_true]; exact ⟨G1, ρ1, S1, q.mono e1⟩
  | ex x ρ1 => rw [h] at q; exact q
  | no => rw [h] at q; exact q

/-! ### targets: names, tuples of targets -/
inductive Tg where
  | n (j : Nat) | t (l : List Tg)
mutual
def asgT : Tg → Bool → D → Ve → Option Ve
  | .n j, fl, d, ρ => some (ρ.set j (some (if fl = true then .ow else .fz, d)))
  | .t l, _, .tup ds, ρ => if ds.length = l.length then asgTs l ds ρ else none
  | .t l, _, .rot ds, ρ => if ds.length = l.length then asgTs l ds ρ else none
  | .t _, _, _, _ => none
def asgTs : List Tg → List D → Ve → Option Ve
  | [], [], ρ => some ρ
  | t :: ts, d :: ds, ρ => match asgT t false d ρ with
    | some ρ1 => asgTs ts ds ρ1
    | none => none
  | _, _, _ => none
end
mutual
def Tg.at : Tg → Nat → Prop
  | .n j, k => k = j
  | .t l, k => Tg.ats l k
def Tg.ats : List Tg → Nat → Prop
  | [], _ => False
  | a :: ts, k => Tg.at a k ∨ Tg.ats ts k
end
/-- only the target's slots have changed -/
def Chg (P : Nat → Prop) (σ σ' : L2.St) : Prop := σ'.length = σ.length ∧ ∀ k, ¬ P k → σ'[k]? = σ[k]?
theorem Chg.refl (P : Nat → Prop) (σ : L2.St) : Chg P σ σ := ⟨rfl, fun _ _ => rfl⟩
def tG (K : PySem.W.Frag) (B : Bs) (t : Tg) : TG := fun v σ H Q => ∃ G ρ fl d, Sim K B G H σ ρ ∧ ValOk K B G H σ ρ fl v d ∧ match asgT t fl d ρ with
  | some ρ' => ∀ G' σ', Ex G G' → Sim K B G' H σ' ρ' → Chg t.at σ σ' → Q σ' H
  | none => False
def tGs (K : PySem.W.Frag) (B : Bs) (ts : List Tg) : TGs := fun vs σ H Q => ∃ G ρ ds, Sim K B G H σ ρ ∧ RepL K B.T G ds vs ∧ match asgTs ts ds ρ with
  | some ρ' => ∀ G' σ', Ex G G' → Sim K B G' H σ' ρ' → Chg (Tg.ats ts) σ σ' → Q σ' H
  | none => False
theorem PG.imp {tg : Expr} {t t' : TG} (h : PG X tg t) (k : ∀ v σ H Q, t' v σ H Q → t v σ H Q) : PG X tg t' := ⟨fun pins s σ H v u Q I r q => h.run pins s σ H v u Q I r (k v σ H Q q)⟩
theorem PGs.imp {ts : List Expr} {t t' : TGs} (h : PGs X ts t) (k : ∀ v σ H Q, t' v σ H Q → t v σ H Q) : PGs X ts t' := ⟨fun pins s σ H v u Q I r q => h.run pins s σ H v u Q I r (k v σ H Q q)⟩
theorem Sim.set (S : Sim K B G H σ ρ) (j : Nat) {fl : Bool} {d : Pf.D} (k : ValOk K B G H σ ρ fl v d) : Sim K B G H (σ.set j (some v)) (ρ.set j (some (if fl = true then .ow else .fz, d))) := by
  by_cases hl : j < ρ.length
  · have hlσ : j < σ.length := by rw [S.len]; exact hl
    refine ⟨S.ex, S.new, S.g0, S.fr, S.al, by rw [List.length_set, List.length_set]; exact S.len, fun i fl' d' h => ?_, fun i1 i2 p f1 d1 f2 d2 h1 h2 n1 n2 s1 s2 => ?_⟩
    · by_cases hij : j = i
      · subst hij
        rw [List.getElem?_set_self hl] at h
        rw [List.getElem?_set_self hlσ]
        cases h
        refine ⟨v, rfl, ?_⟩
        cases fl with
        | true => obtain ⟨p, ev, ho, hg, h0, _⟩ := k; exact ⟨p, ev, ho, hg, h0⟩
        | false => exact k
      · rw [List.getElem?_set_ne hij] at h ⊢
        exact S.sl i fl' d' h
    · have old : ∀ (i : Nat) p f1 d1, j ≠ i → (ρ.set j (some (if fl = true then Fl.ow else Fl.fz, d)))[i]? = some (some (f1, d1)) → f1 ≠ .fz → (σ.set j (some v))[i]? = some (some (.ref p)) → fl = true → v ≠ .ref p := fun i p f1 d1 hji h n1 s hf ev => by
        rw [List.getElem?_set_ne hji] at h s
        subst hf
        obtain ⟨q, eq, _, _, _, nd⟩ := k
        rw [eq] at ev; cases ev
        exact nd i f1 d1 h n1 s
      by_cases e1 : j = i1
      · subst e1
        by_cases e2 : j = i2
        · exact e2
        · rw [List.getElem?_set_self hl] at h1
          rw [List.getElem?_set_self hlσ] at s1
          cases h1
          cases fl with
          | true => cases s1; exact absurd rfl (old i2 p f2 d2 e2 h2 n2 s2 rfl)
          | false => exact absurd rfl n1
      · by_cases e2 : j = i2
        · subst e2
          rw [List.getElem?_set_self hl] at h2
          rw [List.getElem?_set_self hlσ] at s2
          cases h2
          cases fl with
          | true => cases s2; exact absurd rfl (old i1 p f1 d1 e1 h1 n1 s1 rfl)
          | false => exact absurd rfl n2
        · rw [List.getElem?_set_ne e1] at h1 s1
          rw [List.getElem?_set_ne e2] at h2 s2
          exact S.dis i1 i2 p f1 d1 f2 d2 h1 h2 n1 n2 s1 s2
  · have e1 : ρ.set j (some (if fl = true then Fl.ow else Fl.fz, d)) = ρ := List.set_eq_of_length_le (by omega)
    have e2 : σ.set j (some v) = σ := List.set_eq_of_length_le (by rw [S.len]; omega)
    rw [e1, e2]; exact S
theorem pg_n {j : Nat} {x : Expr} (h : PG X x (gName j)) : PG X x (tG X.K B (.n j)) := PG.imp h fun v σ H Q ⟨G, ρ, fl, d, S, k, q⟩ => by
  dsimp only [asgT] at q
  exact q G (σ.set j (some v)) (Ex.refl _) (S.set j k) ⟨List.length_set .., fun k hk => List.getElem?_set_ne (fun e => hk e.symm)⟩
theorem pgs_n : PGs X [] (tGs X.K B []) := PGs.imp pgs_nil fun vs σ H Q ⟨G, ρ, ds, S, r, q⟩ => by
  cases ds with
  | nil => cases r; exact ⟨rfl, q G σ (Ex.refl _) S (Chg.refl _ _)⟩
  | cons d ds => exact q.elim
theorem Chg.trans {P P' : Nat → Prop} {σ σ1 σ2 : L2.St} (a : Chg P σ σ1) (b : Chg P' σ1 σ2) : Chg (fun k => P k ∨ P' k) σ σ2 :=
  ⟨b.1.trans a.1, fun k hk => (b.2 k fun z => hk (.inr z)).trans (a.2 k fun z => hk (.inl z))⟩
theorem pgs_c {x : Expr} {xs : List Expr} {t : Tg} {ts : List Tg} (h1 : PG X x (tG X.K B t)) (h2 : PGs X xs (tGs X.K B ts)) (hs : (assignEach (x :: xs) X.env).map (·.2) = assign x X.env :: (assignEach xs X.env).map (·.2) := by rfl) : PGs X (x :: xs) (tGs X.K B (t :: ts)) :=
  PGs.imp (pgs_cons h1 h2 hs) fun vs σ H Q ⟨G, ρ, ds, S, r, q⟩ => by
    cases ds with
    | nil => exact q.elim
    | cons d ds =>
      obtain ⟨v, w, e, r1, r2⟩ := r
      subst e
      refine ⟨v, w, rfl, G, ρ, false, d, S, r1, ?_⟩
      dsimp only [asgTs] at q
      cases h : asgT t false d ρ with
      | none => rw [h] at q; exact q
      | some ρ1 =>
        rw [h] at q
        intro G1 σ1 e1 S1 c1
        refine ⟨G1, ρ1, ds, S1, r2.mono e1, ?_⟩
        dsimp only at q
        cases h2 : asgTs ts ds ρ1 with
        | none => rw [h2] at q; exact q
        | some ρ2 =>
          rw [h2] at q
          exact fun G2 σ2 e2 S2 c2 => q G2 σ2 (e1.trans e2) S2 (c1.trans c2)
theorem PGs.len : ∀ {xs : List Expr} {n : Nat}, (assignEach xs X.env).length = n → xs.length = xs.length := fun _ => rfl
theorem tupG_read {ts : List Tg} {n : Nat} (hl : ts.length = n) : ∀ v σ H Q, tG X.K B (.t ts) v σ H Q → gTup X.K n (tGs X.K B ts) v σ H Q := fun v σ H Q ⟨G, ρ, fl, d, S, k, q⟩ => by
    have seq : ∀ {ds : List Pf.D}, (Cont X.K B.T G H v (.tup ds) ∨ Cont X.K B.T G H v (.rot ds)) → (match (if ds.length = ts.length then asgTs ts ds ρ else none) with
        | some ρ' => ∀ G' σ', Ex G G' → Sim X.K B G' H σ' ρ' → Chg (Tg.t ts).at σ σ' → Q σ' H
        | none => False) → gTup X.K n (tGs X.K B ts) v σ H Q := fun {ds} c q => by
      by_cases hd : ds.length = ts.length
      · rw [if_pos hd] at q
        obtain ⟨p, vs, e, s, r⟩ := Cont.anyT S.ex c
        exact ⟨p, vs, e, s, by rw [r.len, hd, hl], G, ρ, ds, S, r, q⟩
      · rw [if_neg hd] at q; exact q.elim
    cases d with
    | tup ds =>
      have c : Cont X.K B.T G H v (.tup ds) := by
        cases fl with
        | false => exact .inl k
        | true => obtain ⟨_, _, ho, _⟩ := k; exact ho.elim
      exact seq (.inl c) q
    | rot ds =>
      have c : Cont X.K B.T G H v (.rot ds) := by
        cases fl with
        | false => exact .inl k
        | true => obtain ⟨_, _, ho, _⟩ := k; exact ho.elim
      exact seq (.inr c) q
    | _ => exact q.elim
theorem pg_t {xs : List Expr} {ts : List Tg} {n kk : Nat} {pos} (hc : X.calm = true) (h : PGs X xs (tGs X.K B ts)) (hl : ts.length = n) (hn : (assignEach xs X.env).length = n := by rfl) (hst : (assignEach xs X.env).findIdx? (·.1) = none := by rfl) : PG X (.Tuple xs kk pos) (tG X.K B (.t ts)) :=
  PG.imp (pg_tup hc h hn hst) (tupG_read hl)
/-! target = e -/
def sAsg (t : Tg) (f : EF) : SF := fun ρ => match f ρ with
  | .ok fl d ρ1 => match asgT t fl d ρ1 with
    | some ρ2 => .nx ρ2
    | none => .no
  | .ex x ρ1 => .ex x ρ1
  | .no => .no
theorem asg_read {t : Tg} {f : EF} (S : Sim K B G H σ ρ) (q : PostS K B G Dn (sAsg t f ρ)) : tAsg (tF K B f) (tG K B t) Dn σ H := by
  refine ⟨G, ρ, S, ?_⟩
  dsimp only [sAsg] at q
  cases h : f ρ with
  | ok fl d ρ1 =>
    rw [h] at q
    intro G1 H1 v e1 S1 k1
    refine ⟨G1, ρ1, fl, d, S1, k1, ?_⟩
    dsimp only at q
    cases h2 : asgT t fl d ρ1 with
    | some ρ2 => rw [h2] at q; exact fun G2 σ2 e2 S2 _ => q G2 H1 σ2 (e1.trans e2) S2
    | none => rw [h2] at q; exact q
  | ex x ρ1 => rw [h] at q; exact q
  | no => rw [h] at q; exact q
theorem ps_as {tg : Expr} {t : Tg} {f : EF} {pos} (he : PE X e (tF X.K B f)) (hg : PG X tg (tG X.K B t)) (hs : swapsWithSole [tg] e pos.line X.env = pure false := by rfl) (hw : swappedStores [tg] e X.env = pure none := by rfl)
    (h1 : (assignEach [tg] X.env).map (·.2) = [assign tg X.env] := by rfl) : PS X (.Assign [tg] e pos) (tS X.K B (sAsg t f)) :=
  PS.imp (ps_asg he hg hs hw h1) fun D σ H ⟨G, ρ, S, q⟩ => asg_read S q
/-- a, b = e, f -/
def sPar (i j : Nat) (f g : EF) : SF := fun ρ => match f ρ with
  | .ok _ d ρ1 => match g ρ1 with
    | .ok _ d2 ρ2 => .nx ((ρ2.set i (some (.fz, d))).set j (some (.fz, d2)))
    | .ex x ρ2 => .ex x ρ2
    | .no => .no
  | .ex x ρ1 => .ex x ρ1
  | .no => .no
/-- name op= e, on ints -/
def sAug (i : Nat) (op : Int → Int → Int) (f : EF) : SF := fun ρ => match ρ[i]? with
  | some (some (.fz, .int a)) => match f ρ with
    | .ok _ (.int b) ρ1 => .nx (ρ1.set i (some (.fz, .int (op a b))))
    | .ok _ _ _ => .no
    | .ex x ρ1 => .ex x ρ1
    | .no => .no
  | _ => .no
theorem ValOk.intv {fl : Bool} {b : Int} (h : ValOk K B G H σ ρ fl v (.int b)) : v = .int b := by
  cases fl with
  | false => exact h
  | true => obtain ⟨p, _, ho, _⟩ := h; exact ho.elim
theorem ps_ag {i : Nat} {op : Int → Int → Int} {f : EF} (h : PS X st (tAug i (tF X.K B f) (ipI op))) : PS X st (tS X.K B (sAug i op f)) := PS.imp h fun D σ H ⟨G, ρ, S, q⟩ => by
  dsimp only [sAug] at q
  split at q
  · rename_i a hx
    obtain ⟨v, e, k⟩ := S.sl i _ _ hx
    refine ⟨v, e, G, ρ, S, ?_⟩
    cases h : f ρ with
    | ok fl d ρ1 =>
      rw [h] at q
      intro G1 H1 w e1 S1 k1
      cases d with
      | int b => exact ⟨a, b, k, k1.intv, q G1 H1 _ e1 (S1.set i (fl := false) (d := .int (op a b)) rfl)⟩
      | _ => exact q.elim
    | ex x ρ1 => rw [h] at q; exact q
    | no => rw [h] at q; exact q
  · exact q.elim
end
end Pf
/-! part Pf6 -/
set_option Elab.async false
set_option linter.all false
set_option maxRecDepth 100000
/-! Pf6: loops, comprehensions. -/
namespace Pf
open PySem PySem.Spec PyProof.Rows L2

/-! ### what is walked -/
inductive IR where
  | ok (ds : List D) (ρ : Ve) | ex (x : D) (ρ : Ve) | no
abbrev ITf := Ve → IR
structure WalkD (K : PySem.W.Frag) (T : Tab) (G : Hp) (J : It) (ds : List D) : Prop where
  go : ∀ G1 H1 i, Ex G G1 → Exr G1 H1 → i < ds.length → J.go i H1
  stop : ∀ G1 H1, Ex G G1 → Exr G1 H1 → J.stop ds.length H1
  yld : ∀ G1 H1 i x H2, Ex G G1 → Exr G1 H1 → i < ds.length → J.yld i H1 x H2 → ∃ G2 d, ds[i]? = some d ∧ Grow G1 H1 G2 H2 ∧ Rep K T G2 d x
def PostI (K : PySem.W.Frag) (B : Bs) (G : Hp) (σ : L2.St) (R : It → Hp → Prop) : IR → Prop
  | .ok ds ρ => ∀ G' H' J, Ex G G' → Sim K B G' H' σ ρ → WalkD K B.T G' J ds → R J H'
  | .ex x ρ => B.wX x ρ
  | .no => False
def tI (K : PySem.W.Frag) (B : Bs) (F : ITf) : TI := fun σ H R => ∃ G ρ, Sim K B G H σ ρ ∧ PostI K B G σ R (F ρ)
section
variable {X : Cx} {B : Bs} {K : PySem.W.Frag} {T : Tab} {G G' H H' : Hp} {σ σ' : L2.St} {ρ : Ve} {Q : VK} {v : V} {e tg iter : Expr} {es : List Expr} {st : Stmt} {rest : List Stmt} {Dn : Ends}
theorem PI.imp {t t' : TI} (h : PI X tg iter t) (k : ∀ σ H R, t' σ H R → t σ H R) : PI X tg iter t' := ⟨fun pins s σ H R I q => h.run pins s σ H R I (k σ H R q)⟩
theorem PI.or {t t' : TI} (h : PI X tg iter t) (h' : PI X tg iter t') : PI X tg iter (fun σ H R => t σ H R ∨ t' σ H R) := ⟨fun pins s σ H R I q => q.elim (h.run pins s σ H R I) (h'.run pins s σ H R I)⟩
theorem RepL.at {ds : List D} {vs : List V} {i : Nat} {x : V} (r : RepL K T G ds vs) (h : vs[i]? = some x) : ∃ d, ds[i]? = some d ∧ Rep K T G d x := r.getV h
theorem walkD_list {p : Addr} {ds : List D} {vs : List V} (s : SqL K G p vs) (r : RepL K T G ds vs) : WalkD K T G (Itl K p) ds where
  go := fun G1 H1 i e x hi => walk_list.goes i H1 (by rw [r.len]; exact hi) (x.l (e.l s))
  stop := fun G1 H1 e x => by
    have := (walk_list (K := K) (a := p) (xs := vs)).stops H1 (x.l (e.l s))
    rw [r.len] at this; exact this
  yld := fun G1 H1 i x H2 e xr hi y => by
    obtain ⟨e1, e2⟩ := walk_list.yields i H1 x H2 (by rw [r.len]; exact hi) (xr.l (e.l s)) y
    subst e1
    obtain ⟨d, h1, h2⟩ := r.getV e2
    exact ⟨G1, d, h1, Grow.refl xr, h2.mono e⟩
theorem walkD_tup {p : Addr} {ds : List D} {vs : List V} (s : SqT K G p vs) (r : RepL K T G ds vs) : WalkD K T G (Itt K p) ds where
  go := fun G1 H1 i e x hi => walk_tup.goes i H1 (by rw [r.len]; exact hi) (x.t (e.t s))
  stop := fun G1 H1 e x => by
    have := (walk_tup (K := K) (a := p) (xs := vs)).stops H1 (x.t (e.t s))
    rw [r.len] at this; exact this
  yld := fun G1 H1 i x H2 e xr hi y => by
    obtain ⟨e1, e2⟩ := walk_tup.yields i H1 x H2 (by rw [r.len]; exact hi) (xr.t (e.t s)) y
    subst e1
    obtain ⟨d, h1, h2⟩ := r.getV e2
    exact ⟨G1, d, h1, Grow.refl xr, h2.mono e⟩
/-- for x in a list, a tuple (a value, kept) -/
def iSeq (f : EF) : ITf := fun ρ => match f ρ with
  | .ok _ d ρ1 => match seqOf d with
    | some ds => .ok ds ρ1
    | none => .no
  | .ex x ρ1 => .ex x ρ1
  | .no => .no
theorem pi_seq {f : EF} (h : PE X iter (tF X.K B f)) : PI X tg iter (tI X.K B (iSeq f)) := PI.imp (PI.or (pi_list h) (pi_tup h)) fun σ H R ⟨G, ρ, S, q⟩ => by
  dsimp only [iSeq] at q
  cases h1 : f ρ with
  | ex x ρ1 => exact .inl ⟨G, ρ, S, by rw [h1] at q ⊢; exact q⟩
  | no => rw [h1] at q; exact q.elim
  | ok fl d ρ1 =>
    rw [h1] at q
    dsimp only at q
    cases d with
    | lst ds => exact .inl ⟨G, ρ, S, PostZ.toE (by
        rw [h1]; intro G1 H1 v e1 S1 ⟨p, vs, ev, s, r⟩
        exact ⟨p, ev, ⟨vs, SqL.of (S1.ex.at s rfl)⟩, q G1 H1 _ e1 S1 (walkD_list (SqL.of s) r)⟩)⟩
    | rol ds => exact .inl ⟨G, ρ, S, PostZ.toE (by
        rw [h1]; intro G1 H1 v e1 S1 ⟨p, vs, ev, s, r⟩
        exact ⟨p, ev, ⟨vs, S1.ex.l s⟩, q G1 H1 _ e1 S1 (walkD_list s r)⟩)⟩
    | tup ds => exact .inr ⟨G, ρ, S, PostZ.toE (by
        rw [h1]; intro G1 H1 v e1 S1 ⟨p, vs, ev, s, r⟩
        exact ⟨p, ev, ⟨vs, SqT.of (S1.ex.at s rfl)⟩, q G1 H1 _ e1 S1 (walkD_tup (SqT.of s) r)⟩)⟩
    | rot ds => exact .inr ⟨G, ρ, S, PostZ.toE (by
        rw [h1]; intro G1 H1 v e1 S1 ⟨p, vs, ev, s, r⟩
        exact ⟨p, ev, ⟨vs, S1.ex.t s⟩, q G1 H1 _ e1 S1 (walkD_tup s r)⟩)⟩
    | _ => exact q.elim
/-- ranges -/
def rng (lo : Int) (n : Nat) : List D := (List.range n).map fun i => .int (lo + (i : Nat))
theorem rng_len (lo : Int) (n : Nat) : (rng lo n).length = n := by unfold rng; rw [List.length_map, List.length_range]
theorem rng_at {lo : Int} {n i : Nat} (h : i < n) : (rng lo n)[i]? = some (.int (lo + (i : Nat))) := by
  unfold rng
  rw [List.getElem?_map, List.getElem?_range h]; rfl
theorem walkD_rng {lo : Int} {n : Nat} : WalkD K T G (Itr lo n) (rng lo n) where
  go := fun G1 H1 i e x hi => by rw [rng_len] at hi; exact hi
  stop := fun G1 H1 e x => by rw [rng_len]; exact Nat.le_refl _
  yld := fun G1 H1 i x H2 e xr hi y => by
    rw [rng_len] at hi
    obtain ⟨e1, e2⟩ := y
    subst e1
    exact ⟨G1, _, rng_at hi, Grow.refl xr, e2⟩
def intsGet (ρ : Ve) : List Hd → Option (List Int)
  | [] => some []
  | h :: hs => match h.get ρ, intsGet ρ hs with
    | some (.int i), some l => some (i :: l)
    | _, _ => none
theorem intsGet_ok (S : Sim K B G H σ ρ) : ∀ {hs : List Hd} {vs : List V} {ns : List Int}, HdsOk K B G σ vs hs → intsGet ρ hs = some ns → vs = ns.map V.int
  | [], [], _, _, g => by cases g; rfl
  | [], _ :: _, _, k, _ => k.elim
  | _ :: _, [], _, k, _ => k.elim
  | h :: hs, v :: vs, ns, k, g => by
    unfold intsGet at g
    split at g
    · rename_i i l h1 h2
      cases g
      rw [List.map_cons, ← intsGet_ok S k.2 h2, (Hd.get_ok S k.1 h1).int]
    · cases g
def okR : Int → Bool
  | .ofNat n => decide (n < 4611686018427387904)
  | .negSucc n => decide (n < 4611686018427387904)
def rngOf : List Int → Option (List D)
  | [j] => if okR j = true then some (rng 0 j.toNat) else none
  | [i, j] => if okR i = true ∧ okR j = true then some (rng i (j - i).toNat) else none
  | _ => none
def iRng (os : List Opd) : ITf := fun ρ => match evOs os ρ with
  | .ok hs ρ1 => match intsGet ρ1 hs with
    | some ns => match rngOf ns with
      | some ds => .ok ds ρ1
      | none => .no
    | none => .no
  | .ex x ρ1 => .ex x ρ1
  | .no => .no
theorem okR_of {i : Int} (h : okR i = true) : -(2 ^ 62) ≤ i ∧ i < 2 ^ 62 := by
  have e : (2 : Int) ^ 62 = 4611686018427387904 := by decide
  rw [e]
  cases i with
  | ofNat n =>
    have h : n < 4611686018427387904 := of_decide_eq_true h
    have e2 : Int.ofNat n = (n : Int) := rfl
    rw [e2]; omega
  | negSucc n =>
    have h : n < 4611686018427387904 := of_decide_eq_true h
    rw [Int.negSucc_eq]; omega
theorem rng1_read {os : List Opd} {R : It → Hp → Prop} (hl : os.length = 1) (S : Sim K B G H σ ρ) (q : PostI K B G σ R (iRng os ρ)) : iRng1 (tOs K B os) σ H R := by
  refine tOs_run S ?_
  dsimp only [iRng] at q
  cases h1 : evOs os ρ with
  | ex x ρ1 => rw [h1] at q; exact q
  | no => rw [h1] at q; exact q
  | ok hs ρ1 =>
    rw [h1] at q
    intro G1 H1 vs e1 S1 k1
    dsimp only at q
    cases h2 : intsGet ρ1 hs with
    | none => rw [h2] at q; exact q.elim
    | some ns =>
      rw [h2] at q
      have ev := intsGet_ok S1 k1 h2
      have hn : ns.length = 1 := by
        have := k1.len
        rw [ev, List.length_map, evOs_len h1, hl] at this; exact this
      match ns, hn, ev, q with
      | [j], _, ev, q =>
        dsimp only [rngOf] at q
        by_cases ho : okR j = true
        · rw [if_pos ho] at q
          obtain ⟨a1, a2⟩ := okR_of ho
          exact ⟨j, ev, a1, a2, q G1 H1 _ e1 S1 walkD_rng⟩
        · rw [if_neg ho] at q; exact q.elim
theorem rng2_read {os : List Opd} {R : It → Hp → Prop} (hl : os.length = 2) (S : Sim K B G H σ ρ) (q : PostI K B G σ R (iRng os ρ)) : iRng2 (tOs K B os) σ H R := by
  refine tOs_run S ?_
  dsimp only [iRng] at q
  cases h1 : evOs os ρ with
  | ex x ρ1 => rw [h1] at q; exact q
  | no => rw [h1] at q; exact q
  | ok hs ρ1 =>
    rw [h1] at q
    intro G1 H1 vs e1 S1 k1
    dsimp only at q
    cases h2 : intsGet ρ1 hs with
    | none => rw [h2] at q; exact q.elim
    | some ns =>
      rw [h2] at q
      have ev := intsGet_ok S1 k1 h2
      have hn : ns.length = 2 := by
        have := k1.len
        rw [ev, List.length_map, evOs_len h1, hl] at this; exact this
      match ns, hn, ev, q with
      | [i, j], _, ev, q =>
        dsimp only [rngOf] at q
        by_cases ho : okR i = true ∧ okR j = true
        · rw [if_pos ho] at q
          obtain ⟨a1, a2⟩ := okR_of ho.1
          obtain ⟨b1, b2⟩ := okR_of ho.2
          exact ⟨i, j, ev, ⟨a1, a2, b1, b2⟩, q G1 H1 _ e1 S1 walkD_rng⟩
        · rw [if_neg ho] at q; exact q.elim
theorem pi_r1 {a : Expr} {os : List Opd} {p pos} (hg : Gl X "range") (hm : X.mg "range" = none) (ha : PA X [a] (tOs X.K B os)) (hl : os.length = 1 := by rfl) (hs : starEach [a] X.env = [(false, eval a X.env)] := by rfl) : PI X tg (.Call (.Name "range" p) [a] [] pos) (tI X.K B (iRng os)) :=
  PI.imp (pi_range1 hg hm ha hs) fun σ H R ⟨G, ρ, S, q⟩ => rng1_read hl S q
theorem pi_r2 {a b : Expr} {os : List Opd} {p pos} (hg : Gl X "range") (hm : X.mg "range" = none) (ha : PA X [a, b] (tOs X.K B os)) (hl : os.length = 2 := by rfl) (hs : starEach [a, b] X.env = [(false, eval a X.env), (false, eval b X.env)] := by rfl) (hs2 : starEach [b] X.env = [(false, eval b X.env)] := by rfl) :
    PI X tg (.Call (.Name "range" p) [a, b] [] pos) (tI X.K B (iRng os)) :=
  PI.imp (pi_range2 hg hm ha hs hs2) fun σ H R ⟨G, ρ, S, q⟩ => rng2_read hl S q
/-- enumerate -/
def enumD (ds : List D) : List D := (List.range ds.length).zipWith (fun i d => .tup [.int (i : Nat), d]) ds
theorem enumD_len (ds : List D) : (enumD ds).length = ds.length := by unfold enumD; rw [List.length_zipWith, List.length_range, Nat.min_self]
theorem enumD_at {ds : List D} {i : Nat} {d : D} (h : ds[i]? = some d) : (enumD ds)[i]? = some (.tup [.int (i : Nat), d]) := by
  unfold enumD
  have hi := (List.getElem?_eq_some_iff.mp h).1
  rw [List.getElem?_zipWith, List.getElem?_range hi, h]
theorem walkD_enum {p : Addr} {ds : List D} {vs : List V} (s : SqL K G p vs) (r : RepL K T G ds vs) : WalkD K T G (Ite K p) (enumD ds) where
  go := fun G1 H1 i e x hi => by rw [enumD_len] at hi; exact walk_enum.goes i H1 (by rw [r.len]; exact hi) (x.l (e.l s))
  stop := fun G1 H1 e x => by
    have := (walk_enum (K := K) (a := p) (xs := vs)).stops H1 (x.l (e.l s))
    rw [enumD_len, ← r.len]; exact this
  yld := fun G1 H1 i x H2 e xr hi y => by
    rw [enumD_len] at hi
    obtain ⟨t, a, b, e1, e2, e3, e4, e5⟩ := walk_enum.yields i H1 x H2 (by rw [r.len]; exact hi) (xr.l (e.l s)) y
    cases e4
    obtain ⟨d, h1, h2⟩ := r.getV e5
    subst e1 e3
    exact ⟨upd G1 t (.tup [.int (i : Nat), b]), _, enumD_at h1, Grow.keep xr e2, t, _, rfl, upd_same, _, _, rfl, rfl, _, _, rfl, (h2.mono e).mono (Ex.new (xr.ne e2)), rfl⟩
def iEnu (f : EF) : ITf := fun ρ => match f ρ with
  | .ok _ d ρ1 => match d with
    | .lst ds => .ok (enumD ds) ρ1
    | .rol ds => .ok (enumD ds) ρ1
    | _ => .no
  | .ex x ρ1 => .ex x ρ1
  | .no => .no
theorem pi_enu {a : Expr} {f : EF} {p pos tpos : Pos} {elts : List Expr} {kk : Nat} (hg : Gl X "enumerate") (hm : X.mg "enumerate" = none) (h : PE X a (tF X.K B f)) (hs : starEach [a] X.env = [(false, eval a X.env)] := by rfl) :
    PI X (.Tuple elts kk tpos) (.Call (.Name "enumerate" p) [a] [] pos) (tI X.K B (iEnu f)) :=
  PI.imp (pi_enum hg hm (pa_cons h pa_nil hs) hs) fun σ H R ⟨G, ρ, S, q⟩ => by
    refine ⟨G, ρ, S, PostZ.toE ?_⟩
    dsimp only [iEnu] at q
    cases h1 : f ρ with
    | ex x ρ1 => rw [h1] at q; exact q
    | no => rw [h1] at q; exact q
    | ok fl d ρ1 =>
      rw [h1] at q
      dsimp only at q
      cases d with
      | lst ds =>
        intro G1 H1 v e1 S1 ⟨p, vs, ev, s, r⟩
        exact ⟨p, vs, by rw [ev], SqL.of (S1.ex.at s rfl), q G1 H1 _ e1 S1 (walkD_enum (SqL.of s) r)⟩
      | rol ds =>
        intro G1 H1 v e1 S1 ⟨p, vs, ev, s, r⟩
        exact ⟨p, vs, by rw [ev], S1.ex.l s, q G1 H1 _ e1 S1 (walkD_enum s r)⟩
      | _ => exact q.elim

/-! ### for -/
def loopS (t : Tg) (body : SF) : List D → Ve → SR
  | [], ρ => .nx ρ
  | d :: ds, ρ => match asgT t false d ρ with
    | none => .no
    | some ρ1 => match body ρ1 with
      | .nx ρ2 => loopS t body ds ρ2
      | .ct ρ2 => loopS t body ds ρ2
      | .br ρ2 => .nx ρ2
      | .rt fl d ρ2 => .rt fl d ρ2
      | .ex x ρ2 => .ex x ρ2
      | .no => .no
def sFor (t : Tg) (F : ITf) (body : SF) : SF := fun ρ => match F ρ with
  | .ok ds ρ1 => loopS t body ds ρ1
  | .ex x ρ1 => .ex x ρ1
  | .no => .no
theorem for_read {t : Tg} {F : ITf} {body : SF} (S : Sim K B G H σ ρ) (q : PostS K B G Dn (sFor t F body ρ)) : tFor (tI K B F) (tG K B t) (tS K B body) Dn σ H := by
  refine ⟨G, ρ, S, ?_⟩
  dsimp only [sFor] at q
  cases h1 : F ρ with
  | ex x ρ1 => rw [h1] at q; exact q
  | no => rw [h1] at q; exact q
  | ok ds ρ1 =>
    rw [h1] at q
    intro G1 H1 J e1 S1 wd
    dsimp only at q
    refine ⟨fun i m σ H => m = ds.length - i ∧ i ≤ ds.length ∧ ∃ G2 ρ2, Ex G1 G2 ∧ Sim K B G2 H σ ρ2 ∧ PostS K B G2 Dn (loopS t body (ds.drop i) ρ2), ⟨ds.length, by simp, Nat.zero_le _, G1, ρ1, Ex.refl _, S1, q.mono e1⟩, ?_⟩
    rintro i m σ2 H2 ⟨rfl, hi, G2, ρ2, e2, S2, p2⟩
    by_cases hlt : i < ds.length
    · refine .inr ⟨wd.go G2 H2 i e2 S2.ex hlt, fun σ' H' => (i + 1 ≤ ds.length ∧ ∃ G3 ρ3, Ex G1 G3 ∧ Sim K B G3 H' σ' ρ3 ∧ PostS K B G3 Dn (loopS t body (ds.drop (i + 1)) ρ3)), fun σ' H' ⟨h, w⟩ => ⟨ds.length - (i + 1), by omega, rfl, h, w⟩, fun x H3 y => ?_⟩
      obtain ⟨G3, d, hd, gr, rx⟩ := wd.yld G2 H2 i x H3 e2 S2.ex hlt y
      have S3 := S2.grow gr
      have hdr : ds.drop i = d :: ds.drop (i + 1) := by
        rw [List.drop_eq_getElem_cons hlt]
        congr 1
        rw [List.getElem?_eq_getElem hlt] at hd
        exact Option.some.inj hd
      rw [hdr] at p2
      dsimp only [loopS] at p2
      refine ⟨G3, ρ2, false, d, S3, rx, ?_⟩
      cases ha : asgT t false d ρ2 with
      | none => rw [ha] at p2; exact p2
      | some ρ4 =>
        rw [ha] at p2
        intro G4 σ4 e4 S4 _
        refine ⟨G4, ρ4, S4, ?_⟩
        have e24 : Ex G2 G4 := gr.e.trans e4
        dsimp only at p2
        cases hb : body ρ4 with
        | nx ρ5 => rw [hb] at p2; exact fun G5 H5 σ5 e5 S5 => ⟨hlt, G5, ρ5, (e2.trans e24).trans e5, S5, p2.mono (e24.trans e5)⟩
        | ct ρ5 => rw [hb] at p2; exact fun G5 H5 σ5 e5 S5 => ⟨hlt, G5, ρ5, (e2.trans e24).trans e5, S5, p2.mono (e24.trans e5)⟩
        | br ρ5 => rw [hb] at p2; exact fun G5 H5 σ5 e5 S5 => p2 G5 H5 σ5 (e24.trans e5) S5
        | rt fl d ρ5 => rw [hb] at p2; exact fun G5 H5 σ5 v e5 S5 k => p2 G5 H5 σ5 v (e24.trans e5) S5 k
        | ex x ρ5 => rw [hb] at p2; exact p2
        | no => rw [hb] at p2; exact p2
    · have e : i = ds.length := by omega
      subst e
      rw [List.drop_length] at p2
      exact .inl ⟨wd.stop G2 H2 e2 S2.ex, p2 G2 H2 σ2 (Ex.refl _) S2⟩
theorem ps_fo {body : List Stmt} {t : Tg} {F : ITf} {f : SF} {pos} (hp : PassesOwn (model X.prog X.w) X.A X.env X.xe) (hc : X.calm = true) (hi : PI X tg iter (tI X.K B F)) (hg : PG X tg (tG X.K B t)) (hb : PSs X body (tS X.K B f))
    (hs : ∀ x, foldedSetIterable iter X.env x = pure x := by intro _; rfl) : PS X (.For tg iter body [] pos) (tS X.K B (sFor t F f)) :=
  PS.imp (ps_for hp hc hi hg hb hs) fun D σ H ⟨G, ρ, S, q⟩ => for_read S q

/-! ### while -/
def loopW (t : TFn) (body : SF) : Nat → Ve → SR
  | 0, _ => .no
  | n + 1, ρ => match t ρ with
    | .ok true ρ1 => match body ρ1 with
      | .nx ρ2 => loopW t body n ρ2
      | .ct ρ2 => loopW t body n ρ2
      | .br ρ2 => .nx ρ2
      | .rt fl d ρ2 => .rt fl d ρ2
      | .ex x ρ2 => .ex x ρ2
      | .no => .no
    | .ok false ρ1 => .nx ρ1
    | .ex x ρ1 => .ex x ρ1
    | .no => .no
theorem ps_wh {c : Expr} {body : List Stmt} {t : TFn} {f : SF} {pos} (n : Nat) (hp : PassesOwn (model X.prog X.w) X.A X.env X.xe) (hc : PT X c (tT X.K B t)) (hb : PSs X body (tS X.K B f)) : PS X (.While c body [] pos) (tS X.K B (loopW t f n)) :=
  PS.imp (ps_while hp hc hb) fun D σ H ⟨G, ρ, S, q⟩ => by
    refine ⟨fun m σ H => ∃ G1 ρ1, Sim X.K B G1 H σ ρ1 ∧ PostS X.K B G1 D (loopW t f m ρ1), ⟨n, G, ρ, S, q⟩, ?_⟩
    rintro m σ1 H1 ⟨G1, ρ1, S1, q1⟩
    cases m with
    | zero => exact q1.elim
    | succ m =>
      refine ⟨G1, ρ1, S1, ?_⟩
      dsimp only [loopW] at q1
      cases h1 : t ρ1 with
      | ex x ρ2 => rw [h1] at q1; exact q1
      | no => rw [h1] at q1; exact q1
      | ok b ρ2 =>
        rw [h1] at q1
        intro G2 H2 e2 S2
        cases b with
        | false => rw [if_neg Bool.false_ne_true]; exact q1 G2 H2 σ1 e2 S2
        | true =>
          rw [if_pos rfl]
          dsimp only at q1
          refine ⟨fun σ' H' => ∃ G3 ρ3, Sim X.K B G3 H' σ' ρ3 ∧ PostS X.K B G3 D (loopW t f m ρ3), fun σ' H' w => ⟨m, Nat.lt_succ_self _, w⟩, G2, ρ2, S2, ?_⟩
          cases hb : f ρ2 with
          | nx ρ5 => rw [hb] at q1; exact fun G5 H5 σ5 e5 S5 => ⟨G5, ρ5, S5, q1.mono (e2.trans e5)⟩
          | ct ρ5 => rw [hb] at q1; exact fun G5 H5 σ5 e5 S5 => ⟨G5, ρ5, S5, q1.mono (e2.trans e5)⟩
          | br ρ5 => rw [hb] at q1; exact fun G5 H5 σ5 e5 S5 => q1 G5 H5 σ5 (e2.trans e5) S5
          | rt fl d ρ5 => rw [hb] at q1; exact fun G5 H5 σ5 v e5 S5 k => q1 G5 H5 σ5 v (e2.trans e5) S5 k
          | ex x ρ5 => rw [hb] at q1; exact q1
          | no => rw [hb] at q1; exact q1
end
end Pf
/-! part Pf7 -/
set_option Elab.async false
set_option linter.all false
set_option maxRecDepth 100000
/-! Pf7: comprehensions: each part runs over a frame of its own. -/
namespace Pf
open PySem PySem.Spec PyProof.Rows L2

section
variable {X : Cx} {B : Bs} {K : PySem.W.Frag} {T : Tab} {G G' H H' : Hp} {σ σ' : L2.St} {ρ ρ' : Ve} {Q : VK} {v : V} {e tg iter : Expr} {es : List Expr} {st : Stmt} {rest : List Stmt} {Dn : Ends} {p : Addr}
open Classical in
/-- all that stands now but the own objects -/
noncomputable def here (H : Hp) (σ : L2.St) (ρ : Ve) : Hp := fun a => if ∃ (i : Nat) (d : D), ρ[i]? = some (some (.ow, d)) ∧ σ[i]? = some (some (.ref a)) then none else H a
theorem here_ow {a : Addr} {i : Nat} {d : D} (h1 : ρ[i]? = some (some (.ow, d))) (h2 : σ[i]? = some (some (.ref a))) : here H σ ρ a = none := if_pos ⟨i, d, h1, h2⟩
theorem here_no {a : Addr} (h : ¬ ∃ (i : Nat) (d : D), ρ[i]? = some (some (.ow, d)) ∧ σ[i]? = some (some (.ref a))) : here H σ ρ a = H a := if_neg h
theorem here_some {a : Addr} {o : HO} (h : here H σ ρ a = some o) : H a = some o := by
  by_cases z : ∃ (i : Nat) (d : D), ρ[i]? = some (some (.ow, d)) ∧ σ[i]? = some (some (.ref a))
  · unfold here at h; rw [if_pos z] at h; cases h
  · rw [here_no z] at h; exact h
theorem Sim.ow0 (S : Sim K B G H σ ρ) {a : Addr} (h : ∃ (i : Nat) (d : D), ρ[i]? = some (some (.ow, d)) ∧ σ[i]? = some (some (.ref a))) : B.H0 a = none := by
  obtain ⟨i, d, h1, h2⟩ := h
  obtain ⟨v, e, p, ev, _, _, h0⟩ := S.sl i _ _ h1
  rw [h2] at e; cases e; cases ev; exact h0
theorem Sim.mmH (S : Sim K B G H σ ρ) : (∀ a, B.M a → here H σ ρ a ≠ none) ∧ MkT B.T G := ⟨fun a m z => by
  by_cases hz : ∃ (i : Nat) (d : D), ρ[i]? = some (some (.ow, d)) ∧ σ[i]? = some (some (.ref a))
  · exact B.mm a m (S.ow0 hz)
  · rw [here_no hz] at z; exact B.mm a m (S.al a z), S.tbs⟩
noncomputable abbrev Sim.fr' (S : Sim K B G H σ ρ) : Bs := ⟨B.T, here H σ ρ, G, B.M, fun _ _ => False, S.mmH.1, S.mmH.2⟩
theorem Sim.frame (S : Sim K B G H σ ρ) : Sim K S.fr' G H σ ρ where
  ex := S.ex
  new := fun a o h => .inl h
  g0 := Ex.refl _
  fr := fun a o h _ _ => here_some h
  al := fun a h => by
    cases z : here H σ ρ a with
    | none => exact z
    | some o => rw [here_some z] at h; cases h
  len := S.len
  sl := fun i fl d h => by
    obtain ⟨v, e, k⟩ := S.sl i fl d h
    refine ⟨v, e, ?_⟩
    cases fl with
    | fz => exact k
    | ow => obtain ⟨p, ev, ho, hg, h0⟩ := k; exact ⟨p, ev, ho, hg, here_ow h (by rw [e, ev])⟩
    | bo => exact k
  dis := S.dis
theorem Sim.unframe (S : Sim K B G H σ ρ) (S' : Sim K S.fr' G' H' σ' ρ') : Sim K B G' H' σ' ρ' := by
  have h00 : ∀ a, here H σ ρ a = none → B.H0 a = none := fun a h => by
    by_cases z : ∃ (i : Nat) (d : D), ρ[i]? = some (some (.ow, d)) ∧ σ[i]? = some (some (.ref a))
    · exact S.ow0 z
    · rw [here_no z] at h; exact S.al a h
  refine ⟨S'.ex, fun a o h => ?_, S.g0.trans S'.g0, fun a o h nt m => ?_, fun a h => h00 a (S'.al a h), S'.len, fun i fl d h => ?_, S'.dis⟩
  · rcases S'.new a o h with z | z | z
    · exact S.new a o z
    · exact .inr (.inl (h00 a z))
    · exact .inr (.inr z)
  · have hH := S.fr a o h nt m
    have nz : ¬ ∃ (i : Nat) (d : D), ρ[i]? = some (some (.ow, d)) ∧ σ[i]? = some (some (.ref a)) := fun z => by rw [S.ow0 z] at h; cases h
    exact S'.fr a o (by show here H σ ρ a = some o; rw [here_no nz]; exact hH) nt m
  · obtain ⟨v, e, k⟩ := S'.sl i fl d h
    refine ⟨v, e, ?_⟩
    cases fl with
    | fz => exact k
    | ow => obtain ⟨p, ev, ho, hg, h0⟩ := k; exact ⟨p, ev, ho, hg, h00 p h0⟩
    | bo => exact k
/-- a place that no slot holds -/
def NoSl (σ : L2.St) (ρ : Ve) (p : Addr) : Prop := ∀ (j : Nat) f1 d1, ρ[j]? = some (some (f1, d1)) → f1 ≠ Fl.fz → σ[j]? ≠ some (some (.ref p))
/-- a place that may be written: no table, no code object -/
def Okp (H : Hp) (p : Addr) : Prop := H p = none ∨ ∃ u, H p = some u ∧ isTb u = false ∧ ∀ φ, u ≠ .ext φ
theorem Exr.poke (x : Exr G H) {o : HO} (ok : Okp H p) (hg : G p = none) : Exr G (L2.upd H p o) := fun a u e => by
  have ne : a ≠ p := fun z => by subst z; rw [hg] at e; cases e
  rcases x a u e with ⟨n, z⟩ | ⟨z, ob, q⟩ | z
  · exact .inl ⟨n, by rw [upd_ne ne]; exact z⟩
  · exact .inr (.inl ⟨z, ob, by rw [upd_ne ne]; exact q⟩)
  · rcases ok with hp | ⟨u', hu, n1, n2⟩
    · exact .inr (.inr (z.ext (upd_some hp)))
    · exact .inr (.inr (z.set hu n1 n2))
theorem Sim.poke (S : Sim K B G H σ ρ) {o : HO} (ok : Okp H p) (hg : G p = none) (h0 : B.H0 p = none) (nd : NoSl σ ρ p) : Sim K B G (upd H p o) σ ρ where
  ex := S.ex.poke ok hg
  new := S.new
  g0 := S.g0
  fr := fun a u e nt m => by
    have ne : a ≠ p := fun z => by subst z; rw [h0] at e; cases e
    rw [upd_ne ne]; exact S.fr a u e nt m
  al := fun a h => by
    by_cases ha : a = p
    · subst ha; rw [upd_same] at h; cases h
    · rw [upd_ne ha] at h; exact S.al a h
  len := S.len
  sl := fun i fl d h => by
    obtain ⟨v, e, k⟩ := S.sl i fl d h
    refine ⟨v, e, ?_⟩
    have own : ∀ q, fl ≠ .fz → v = .ref q → Own K B.T G H q d → Own K B.T G (upd H p o) q d := fun q hn ev ho => by
      have ne : q ≠ p := fun z => nd i fl d h hn (by rw [e, ev, z])
      exact ho.mono (Ex.refl _) (upd_ne ne)
    cases fl with
    | fz => exact k
    | ow => obtain ⟨q, ev, ho, hg, h0⟩ := k; exact ⟨q, ev, own q (by decide) ev ho, hg, h0⟩
    | bo => obtain ⟨q, ev, ho, hg, h0⟩ := k; exact ⟨q, ev, own q (by decide) ev ho, hg, h0⟩
  dis := S.dis

/-! the list that is made: stands at p, is no slot's -/
structure Mk1 (K : PySem.W.Frag) (B : Bs) (G H : Hp) (σ : L2.St) (ρ : Ve) (p : Addr) (vs : List V) : Prop where
  s : Sim K B G H σ ρ
  h : H p = some (.lst vs)
  g : G p = none
  z : B.H0 p = none
  n : NoSl σ ρ p
theorem Mk1.okp {vs : List V} (m : Mk1 K B G H σ ρ p vs) : Okp H p := .inr ⟨_, m.h, rfl, fun _ z => by cases z⟩
/-- behind a part that ran over its own frame -/
theorem Mk1.step {vs : List V} (m : Mk1 K B G H σ ρ p vs) (S' : Sim K m.s.fr' G' H' σ' ρ') : Mk1 K B G' H' σ' ρ' p vs := by
  have nz : ¬ ∃ (i : Nat) (d : D), ρ[i]? = some (some (.ow, d)) ∧ σ[i]? = some (some (.ref p)) := fun ⟨i, d, h1, h2⟩ => m.n i _ _ h1 (by decide) h2
  have hp : here H σ ρ p = some (.lst vs) := by rw [here_no nz]; exact m.h
  have nM : ¬ B.M p := fun z => B.mm p z m.z
  refine ⟨m.s.unframe S', S'.fr p _ hp rfl nM, ?_, m.z, fun j f1 d1 hj n1 sj => ?_⟩
  · cases q : G' p with
    | none => rfl
    | some o =>
      rcases S'.new p o q with z | z | z
      · have z : G p = some o := z
        rw [m.g] at z; cases z
      · have z : here H σ ρ p = none := z
        rw [hp] at z; cases z
      · exact (tp_no S'.ex q z (S'.fr p _ hp rfl nM) rfl).elim
  · obtain ⟨v, e, k⟩ := S'.sl j f1 d1 hj
    rw [sj] at e; cases e
    cases f1 with
    | fz => exact n1 rfl
    | ow => obtain ⟨q, ev, _, _, h0⟩ := k; cases ev; have h0 : here H σ ρ p = none := h0; rw [hp] at h0; cases h0
    | bo => obtain ⟨q, ev, _, _, h0⟩ := k; cases ev; exact nM h0
/-! slots wiped -/
def wipeV (ρ : Ve) : List Nat → Ve
  | [] => ρ
  | v :: vs => (wipeV ρ vs).set v none
theorem Sim.forget2 (S : Sim K B G H σ ρ) (i : Nat) : Sim K B G H (σ.set i none) (ρ.set i none) := by
  have S1 := S.forget i
  have un : ∀ {j : Nat} {f1 d1}, (ρ.set i none)[j]? = some (some (f1, d1)) → i ≠ j := fun {j f1 d1} h hij => by
    subst hij
    by_cases hl : i < ρ.length
    · rw [List.getElem?_set_self hl] at h; cases h
    · rw [List.getElem?_eq_none_iff.mpr (by rw [List.length_set]; omega)] at h; cases h
  refine ⟨S1.ex, S1.new, S1.g0, S1.fr, S1.al, by rw [List.length_set]; exact S1.len, fun j fl d h => ?_, fun j k p f1 d1 f2 d2 h1 h2 n1 n2 s1 s2 => ?_⟩
  · rw [List.getElem?_set_ne (un h)]; exact S1.sl j fl d h
  · rw [List.getElem?_set_ne (un h1)] at s1
    rw [List.getElem?_set_ne (un h2)] at s2
    exact S1.dis j k p _ _ _ _ h1 h2 n1 n2 s1 s2
theorem Sim.wipe (S : Sim K B G H σ ρ) : ∀ vs : List Nat, Sim K B G H (L2.wipe σ vs) (wipeV ρ vs)
  | [] => S
  | v :: vs => (S.wipe vs).forget2 v
theorem wipe_get (σ : L2.St) {k : Nat} : ∀ {vs : List Nat}, k ∉ vs → (L2.wipe σ vs)[k]? = σ[k]?
  | [], _ => rfl
  | v :: vs, h => by
    rw [List.mem_cons] at h
    show ((L2.wipe σ vs).set v none)[k]? = σ[k]?
    rw [List.getElem?_set_ne (fun e => h (.inl e.symm))]
    exact wipe_get σ fun z => h (.inr z)
theorem wipeV_get (ρ : Ve) {k : Nat} : ∀ {vs : List Nat}, k ∉ vs → (wipeV ρ vs)[k]? = ρ[k]?
  | [], _ => rfl
  | v :: vs, h => by
    rw [List.mem_cons] at h
    show ((wipeV ρ vs).set v none)[k]? = ρ[k]?
    rw [List.getElem?_set_ne (fun e => h (.inl e.symm))]
    exact wipeV_get ρ fun z => h (.inr z)
theorem wipe_len (σ : L2.St) : ∀ vs : List Nat, (L2.wipe σ vs).length = σ.length
  | [] => rfl
  | v :: vs => by show ((L2.wipe σ vs).set v none).length = _; rw [List.length_set, wipe_len σ vs]
theorem wipeV_len (ρ : Ve) : ∀ vs : List Nat, (wipeV ρ vs).length = ρ.length
  | [] => rfl
  | v :: vs => by show ((wipeV ρ vs).set v none).length = _; rw [List.length_set, wipeV_len ρ vs]
theorem wipe_in (σ : L2.St) {k : Nat} : ∀ {vs : List Nat}, k ∈ vs → k < σ.length → (L2.wipe σ vs)[k]? = some none
  | v :: vs, h, hl => by
    show ((L2.wipe σ vs).set v none)[k]? = some none
    by_cases e : v = k
    · subst e; exact List.getElem?_set_self (by rw [wipe_len]; exact hl)
    · rw [List.getElem?_set_ne e]
      exact wipe_in σ ((List.mem_cons.mp h).resolve_left fun z => e z.symm) hl
theorem wipe_eq {vs : List Nat} (h : σ'.length = σ.length) (k : ∀ i, i ∉ vs → σ'[i]? = σ[i]?) : L2.wipe σ' vs = L2.wipe σ vs := by
  apply List.ext_getElem?
  intro i
  by_cases hi : i ∈ vs
  · by_cases hl : i < σ.length
    · rw [wipe_in σ hi hl, wipe_in σ' hi (by rw [h]; exact hl)]
    · rw [List.getElem?_eq_none_iff.mpr (by rw [wipe_len, h]; omega), List.getElem?_eq_none_iff.mpr (by rw [wipe_len]; omega)]
  · rw [wipe_get σ hi, wipe_get σ' hi, k i hi]
theorem wipe_wipe {vs : List Nat} : L2.wipe (L2.wipe σ vs) vs = L2.wipe σ vs := wipe_eq (wipe_len σ vs) fun i hi => wipe_get σ hi
/-- a target within the comprehension's own names -/
def Tg.inn (t : Tg) (vs : List Nat) : Prop := ∀ k, t.at k → k ∈ vs
theorem chg_wipe {t : Tg} {vs : List Nat} (ht : t.inn vs) (c : Chg t.at (L2.wipe σ vs) σ') : L2.wipe σ' vs = L2.wipe σ vs :=
  (wipe_eq c.1 fun i hi => c.2 i fun z => hi (ht i z)).trans wipe_wipe

/-! ### readings over any frame -/
def bb (B : Bs) (h0 g0 : Hp) (mm : (∀ a, B.M a → h0 a ≠ none) ∧ MkT B.T g0) : Bs := ⟨B.T, h0, g0, B.M, fun _ _ => False, mm.1, mm.2⟩
def tFa (K : PySem.W.Frag) (B : Bs) (f : EF) : TE := fun σ H Q => ∃ h0 g0 mm, tF K (bb B h0 g0 mm) f σ H Q
def tTa (K : PySem.W.Frag) (B : Bs) (f : TFn) : TT := fun σ H Q => ∃ h0 g0 mm, tT K (bb B h0 g0 mm) f σ H Q
def tGa (K : PySem.W.Frag) (B : Bs) (t : Tg) : TG := fun v σ H Q => ∃ h0 g0 mm, tG K (bb B h0 g0 mm) t v σ H Q
def tIa (K : PySem.W.Frag) (B : Bs) (f : ITf) : TI := fun σ H R => ∃ h0 g0 mm, tI K (bb B h0 g0 mm) f σ H R
theorem pe_a {f : EF} (h : ∀ h0 g0 mm, PE X e (tF X.K (bb B h0 g0 mm) f)) : PE X e (tFa X.K B f) := ⟨fun pins s σ H Q I ⟨h0, g0, mm, q⟩ => (h h0 g0 mm).run pins s σ H Q I q⟩
theorem pt_a {f : TFn} (h : ∀ h0 g0 mm, PT X e (tT X.K (bb B h0 g0 mm) f)) : PT X e (tTa X.K B f) := ⟨fun pins s σ H Q I ⟨h0, g0, mm, q⟩ => (h h0 g0 mm).run pins s σ H Q I q⟩
theorem pts_a {f : TFn} {ifs : List Expr} (h : ∀ h0 g0 mm, PTs X ifs (tT X.K (bb B h0 g0 mm) f)) : PTs X ifs (tTa X.K B f) := ⟨fun pins s σ H Q I ⟨h0, g0, mm, q⟩ => (h h0 g0 mm).run pins s σ H Q I q⟩
theorem pg_a {t : Tg} (h : ∀ h0 g0 mm, PG X e (tG X.K (bb B h0 g0 mm) t)) : PG X e (tGa X.K B t) := ⟨fun pins s σ H v u Q I r ⟨h0, g0, mm, q⟩ => (h h0 g0 mm).run pins s σ H v u Q I r q⟩
theorem pi_a {f : ITf} (h : ∀ h0 g0 mm, PI X tg iter (tI X.K (bb B h0 g0 mm) f)) : PI X tg iter (tIa X.K B f) := ⟨fun pins s σ H R I ⟨h0, g0, mm, q⟩ => (h h0 g0 mm).run pins s σ H R I q⟩
def tYe : TFn := fun ρ => .ok true ρ
theorem pts_0 : PTs X [] (tT X.K B tYe) := ⟨fun pins s σ H Q I ⟨G, ρ, S, q⟩ => pts_nil.run pins s σ H Q I (q G H (Ex.refl _) S)⟩
theorem pts_1 {c : Expr} {t : TFn} (h : PT X c (tT X.K B t)) : PTs X [c] (tT X.K B t) := pts_one h

/-! ### one clause -/
inductive CR where
  | ok (ys : List D) (ρ : Ve) | ex (x : D) (ρ : Ve) | no
def CR.con (y : D) : CR → CR
  | .ok ys ρ => .ok (y :: ys) ρ
  | r => r
def loopC (vs : List Nat) (t : Tg) (c : TFn) (el : EF) : List D → Ve → CR
  | [], ρ => .ok [] ρ
  | d :: ds, ρ => match asgT t false d ρ with
    | none => .no
    | some ρ1 => match c ρ1 with
      | .ok true ρ2 => match el ρ2 with
        | .ok _ y ρ3 => (loopC vs t c el ds (wipeV ρ3 vs)).con y
        | .ex x ρ3 => .ex x ρ3
        | .no => .no
      | .ok false ρ2 => loopC vs t c el ds (wipeV ρ2 vs)
      | .ex x ρ2 => .ex x ρ2
      | .no => .no
def okOwn (ρ : Ve) (vs : List Nat) : Bool := vs.all fun i => match ρ[i]? with
  | some (some (.fz, _)) => true
  | some none => true
  | _ => false
def restV (ρ0 ρ : Ve) : List Nat → Ve
  | [] => ρ
  | v :: vs => (restV ρ0 ρ vs).set v ((ρ0[v]?).getD none)
def fLc (vs : List Nat) (F : ITf) (t : Tg) (c : TFn) (el : EF) : EF := fun ρ => match F ρ with
  | .ok ds ρ1 => if okOwn ρ1 vs = true ∧ ds.length ≤ 100000 then (match loopC vs t c el ds (wipeV ρ1 vs) with
    | .ok ys ρ2 => .ok true (.lst ys) (restV ρ1 ρ2 vs)
    | .ex _ _ => .no
    | .no => .no) else .no
  | .ex x ρ1 => .ex x ρ1
  | .no => .no
theorem restV_len (ρ0 ρ : Ve) : ∀ vs : List Nat, (restV ρ0 ρ vs).length = ρ.length
  | [] => rfl
  | v :: vs => by show ((restV ρ0 ρ vs).set v _).length = _; rw [List.length_set, restV_len ρ0 ρ vs]
theorem restV_out (ρ0 ρ : Ve) {k : Nat} : ∀ {vs : List Nat}, k ∉ vs → (restV ρ0 ρ vs)[k]? = ρ[k]?
  | [], _ => rfl
  | v :: vs, h => by
    rw [List.mem_cons] at h
    show ((restV ρ0 ρ vs).set v _)[k]? = _
    rw [List.getElem?_set_ne (fun e => h (.inl e.symm))]
    exact restV_out ρ0 ρ fun z => h (.inr z)
theorem restV_in (ρ0 ρ : Ve) {k : Nat} : ∀ {vs : List Nat}, k ∈ vs → k < ρ.length → (restV ρ0 ρ vs)[k]? = some ((ρ0[k]?).getD none)
  | v :: vs, h, hl => by
    show ((restV ρ0 ρ vs).set v _)[k]? = _
    by_cases e : v = k
    · subst e; exact List.getElem?_set_self (by rw [restV_len]; exact hl)
    · rw [List.getElem?_set_ne e]
      exact restV_in ρ0 ρ ((List.mem_cons.mp h).resolve_left fun z => e z.symm) hl
/-- behind the comprehension: the names as they were -/
theorem Sim.back {G1 H1 : Hp} {ρ1 ρ2 : Ve} {vs : List Nat} (S1 : Sim K B G1 H1 σ ρ1) (ok : okOwn ρ1 vs = true) (e : Ex G1 G) (S : Sim K B G H (L2.wipe σ vs) ρ2) : Sim K B G H σ (restV ρ1 ρ2 vs) := by
  have hlen : ρ2.length = ρ1.length := by rw [← S.len, wipe_len, S1.len]
  have inn : ∀ {k fl d}, (restV ρ1 ρ2 vs)[k]? = some (some (fl, d)) → k ∈ vs → fl = .fz ∧ ρ1[k]? = some (some (.fz, d)) := fun {k fl d} h hk => by
    have hl : k < ρ2.length := by
      have := (List.getElem?_eq_some_iff.mp h).1
      rw [restV_len] at this; exact this
    rw [restV_in ρ1 ρ2 hk hl] at h
    have o := List.all_eq_true.mp ok k hk
    cases z : ρ1[k]? with
    | none => rw [z] at h; cases h
    | some y =>
      rw [z] at h o
      cases y with
      | none => cases h
      | some y =>
        obtain ⟨f, d'⟩ := y
        cases f with
        | fz => cases h; exact ⟨rfl, rfl⟩
        | ow => cases o
        | bo => cases o
  refine ⟨S.ex, S.new, S.g0, S.fr, S.al, by rw [restV_len, hlen]; exact S1.len, fun i fl d h => ?_, fun i j p f1 d1 f2 d2 h1 h2 n1 n2 s1 s2 => ?_⟩
  · by_cases hi : i ∈ vs
    · obtain ⟨hf, h'⟩ := inn h hi
      subst hf
      obtain ⟨v, ev, k⟩ := S1.sl i _ _ h'
      exact ⟨v, ev, Rep.mono e k⟩
    · rw [restV_out ρ1 ρ2 hi] at h
      obtain ⟨v, ev, k⟩ := S.sl i fl d h
      rw [wipe_get σ hi] at ev
      exact ⟨v, ev, k⟩
  · by_cases hi : i ∈ vs
    · exact absurd (inn h1 hi).1 n1
    · by_cases hj : j ∈ vs
      · exact absurd (inn h2 hj).1 n2
      · rw [restV_out ρ1 ρ2 hi] at h1
        rw [restV_out ρ1 ρ2 hj] at h2
        exact S.dis i j p f1 d1 f2 d2 h1 h2 n1 n2 (by rw [wipe_get σ hi]; exact s1) (by rw [wipe_get σ hj]; exact s2)
theorem NoSl.back {ρ1 ρ2 : Ve} {vs : List Nat} (hl : ρ2.length = ρ1.length) (ok : okOwn ρ1 vs = true) (n : NoSl (L2.wipe σ vs) ρ2 p) : NoSl σ (restV ρ1 ρ2 vs) p := fun j f1 d1 h n1 s => by
  by_cases hj : j ∈ vs
  · have hl2 : j < ρ2.length := by
      have := (List.getElem?_eq_some_iff.mp h).1
      rw [restV_len] at this; exact this
    rw [restV_in ρ1 ρ2 hj hl2] at h
    have o := List.all_eq_true.mp ok j hj
    cases z : ρ1[j]? with
    | none => rw [z] at h; cases h
    | some y =>
      rw [z] at h o
      cases y with
      | none => cases h
      | some y =>
        obtain ⟨f, d'⟩ := y
        cases f with
        | fz => cases h; exact n1 rfl
        | ow => cases o
        | bo => cases o
  · rw [restV_out ρ1 ρ2 hj] at h
    exact n j f1 d1 h n1 (by rw [wipe_get σ hj]; exact s)
theorem NoSl.wipe {vs : List Nat} (n : NoSl σ ρ p) : ∀ vs : List Nat, NoSl (L2.wipe σ vs) (wipeV ρ vs) p
  | [] => n
  | v :: vs => fun j f1 d1 h n1 s => by
    have h : ((wipeV ρ vs).set v none)[j]? = some (some (f1, d1)) := h
    have s : ((L2.wipe σ vs).set v none)[j]? = some (some (.ref p)) := s
    by_cases e : v = j
    · subst e
      by_cases hl : v < (wipeV ρ vs).length
      · rw [List.getElem?_set_self hl] at h; cases h
      · rw [List.getElem?_eq_none_iff.mpr (by rw [List.length_set]; omega)] at h; cases h
    · rw [List.getElem?_set_ne e] at h s
      exact NoSl.wipe (vs := vs) n vs j f1 d1 h n1 s
theorem Mk1.wipe {vs : List V} (m : Mk1 K B G H σ ρ p vs) (ws : List Nat) : Mk1 K B G H (L2.wipe σ ws) (wipeV ρ ws) p vs := ⟨m.s.wipe ws, m.h, m.g, m.z, NoSl.wipe (vs := ws) m.n ws⟩
theorem Mk1.put {vs : List V} {y : V} (m : Mk1 K B G H σ ρ p vs) : Mk1 K B G (upd H p (.lst (vs ++ [y]))) σ ρ p (vs ++ [y]) := ⟨m.s.poke m.okp m.g m.z m.n, upd_same, m.g, m.z, m.n⟩

theorem Mk1.grow {vs : List V} (m : Mk1 K B G H σ ρ p vs) (gr : Grow G H G' H') : Mk1 K B G' H' σ ρ p vs := by
  refine ⟨m.s.grow gr, gr.f p _ m.h rfl, ?_, m.z, m.n⟩
  cases z : G' p with
  | none => rfl
  | some o =>
    rcases gr.n p o z with w | w | w
    · rw [m.g] at w; cases w
    · rw [m.h] at w; cases w
    · exact (tp_no gr.x z w (gr.f p _ m.h rfl) rfl).elim
/-- what the rest of the comprehension will give -/
def PostC (K : PySem.W.Frag) (B : Bs) (G1 : Hp) (σ : L2.St) (p : Addr) (Qd : Hp → Prop) (pre : List D) : CR → Prop
  | .ok ys ρ => ∀ G' H' vs, Ex G1 G' → Mk1 K B G' H' σ ρ p vs → RepL K B.T G' (pre ++ ys) vs → Qd H'
  | .ex _ _ => False
  | .no => False
theorem PostC.con {G1 : Hp} {Qd : Hp → Prop} {pre : List D} {y : D} {r : CR} (h : PostC K B G1 σ p Qd pre (r.con y)) : PostC K B G1 σ p Qd (pre ++ [y]) r := by
  cases r with
  | ok ys ρ => intro G' H' vs e m rr; exact h G' H' vs e m (by rw [List.append_assoc] at rr; exact rr)
  | ex x ρ => exact h
  | no => exact h
/-- one turn: target, test, element -/
theorem turn_read {G1 : Hp} {vs : List Nat} {t : Tg} {c : TFn} {el : EF} {Qd : Hp → Prop} {pre : List D} {us : List V} {d : D} {ds : List D} {x : V} {Nx : Hp → Prop}
    (ht : t.inn vs) (hz : pre.length < 100000) (e1 : Ex G1 G) (m : Mk1 K B G H (L2.wipe σ vs) ρ p us) (r : RepL K B.T G pre us) (rx : Rep K B.T G d x) (q : PostC K B G1 (L2.wipe σ vs) p Qd pre (loopC vs t c el (d :: ds) ρ))
    (hn : ∀ G' H' ρ' pre' us', Ex G1 G' → pre'.length ≤ pre.length + 1 → Mk1 K B G' H' (L2.wipe σ vs) ρ' p us' → RepL K B.T G' pre' us' → PostC K B G1 (L2.wipe σ vs) p Qd pre' (loopC vs t c el ds ρ') → Nx H') :
    tGa K B t x (L2.wipe σ vs) H fun σ2 H2 => L2.wipe σ2 vs = L2.wipe σ vs ∧ tTa K B c σ2 H2 fun b H3 =>
      if b = true then tFa K B el σ2 H3 fun y H4 => ∃ acc, H4 p = some (.lst acc) ∧ acc.length < sizeLine ∧ Nx (upd H4 p (.lst (acc ++ [y]))) else Nx H3 := by
  refine ⟨_, _, m.s.mmH, G, ρ, false, d, m.s.frame, rx, ?_⟩
  dsimp only [loopC] at q
  cases ha : asgT t false d ρ with
  | none => rw [ha] at q; exact q.elim
  | some ρ1 =>
    rw [ha] at q
    intro G2 σ2 e2 S2 cg
    have m2 := m.step S2
    have hw := chg_wipe ht cg
    refine ⟨hw, _, _, m2.s.mmH, G2, ρ1, m2.s.frame, ?_⟩
    dsimp only at q
    cases hc : c ρ1 with
    | ex x ρ2 => rw [hc] at q; exact q.elim
    | no => rw [hc] at q; exact q.elim
    | ok b ρ2 =>
      rw [hc] at q
      intro G3 H3 e3 S3
      have m3 := m2.step S3
      have e13 := (e1.trans e2).trans e3
      cases b with
      | false =>
        rw [if_neg Bool.false_ne_true]
        have m3' := m3.wipe vs
        rw [hw] at m3'
        exact hn G3 H3 _ pre us e13 (Nat.le_succ _) m3' (r.mono (e2.trans e3)) q
      | true =>
        rw [if_pos rfl]
        refine ⟨_, _, m3.s.mmH, G3, ρ2, m3.s.frame, PostZ.toE ?_⟩
        dsimp only at q
        cases he : el ρ2 with
        | ex x ρ3 => rw [he] at q; exact q.elim
        | no => rw [he] at q; exact q.elim
        | ok fl y ρ3 =>
          rw [he] at q
          intro G4 H4 w e4 S4 k4
          have m4 := m3.step S4
          refine ⟨us, m4.h, by rw [r.len]; exact Nat.lt_of_lt_of_le hz (by decide), ?_⟩
          have m5 := (m4.put (y := w)).wipe vs
          rw [hw] at m5
          exact hn G4 _ _ (pre ++ [y]) (us ++ [w]) (e13.trans e4) (by rw [List.length_append]; exact Nat.le_refl _) m5 ((r.mono ((e2.trans e3).trans e4)).append (RepL.one k4)) q.con
theorem lc_read {vs : List Nat} {F : ITf} {t : Tg} {c : TFn} {el : EF} (ht : t.inn vs) (S : Sim K B G H σ ρ) (q : PostE K B G σ Q (fLc vs F t c el ρ)) : tLc (tI K B F) (tGa K B t) (tTa K B c) (tFa K B el) vs σ H Q := by
  refine ⟨G, ρ, S, ?_⟩
  dsimp only [fLc] at q
  cases h1 : F ρ with
  | ex x ρ1 => rw [h1] at q; exact q
  | no => rw [h1] at q; exact q
  | ok ds ρ1 =>
    rw [h1] at q
    intro G1 H1 J e1 S1 wd p hp
    dsimp only at q
    by_cases hok : okOwn ρ1 vs = true ∧ ds.length ≤ 100000
    · rw [if_pos hok] at q
      have nd : NoSl σ ρ1 p := fun j f1 d1 hj n1 sj => by
        obtain ⟨v, ev, k⟩ := S1.sl j f1 d1 hj
        rw [sj] at ev; cases ev
        cases f1 with
        | fz => exact n1 rfl
        | ow => obtain ⟨w, ew, how, _⟩ := k; cases ew; obtain ⟨o, h⟩ := how.has; rw [hp] at h; cases h
        | bo => obtain ⟨w, ew, how, _⟩ := k; cases ew; obtain ⟨o, h⟩ := how.has; rw [hp] at h; cases h
      have m0 : Mk1 K B G1 (upd H1 p (.lst [])) σ ρ1 p [] := ⟨S1.poke (.inl hp) (S1.ex.ne hp) (S1.al p hp) nd, upd_same, S1.ex.ne hp, S1.al p hp, nd⟩
      have q' : PostC K B G1 (L2.wipe σ vs) p (fun H' => Q (.ref p) H') [] (loopC vs t c el ds (wipeV ρ1 vs)) := by
        cases h2 : loopC vs t c el ds (wipeV ρ1 vs) with
        | ex x ρ2 => rw [h2] at q; exact q
        | no => rw [h2] at q; exact q
        | ok ys ρ2 =>
          rw [h2] at q
          intro G' H' us e m r
          have hl : ρ2.length = ρ1.length := by rw [← m.s.len, wipe_len, S1.len]
          exact q G' H' _ (e1.trans e) (S1.back hok.1 e m.s) ⟨p, rfl, ⟨us, m.h, r⟩, m.g, m.z, NoSl.back hl hok.1 m.n⟩
      refine ⟨fun i k H => k = ds.length - i ∧ i ≤ ds.length ∧ ∃ G2 ρ2 pre us, Ex G1 G2 ∧ pre.length ≤ i ∧ Mk1 K B G2 H (L2.wipe σ vs) ρ2 p us ∧ RepL K B.T G2 pre us ∧ PostC K B G1 (L2.wipe σ vs) p (fun H' => Q (.ref p) H') pre (loopC vs t c el (ds.drop i) ρ2),
        ⟨ds.length, by simp, Nat.zero_le _, G1, _, [], [], Ex.refl _, Nat.le_refl _, m0.wipe vs, rfl, q'⟩, ?_⟩
      rintro i k H2 ⟨rfl, hi, G2, ρ2, pre, us, e2, hpre, m2, r2, q2⟩
      by_cases hlt : i < ds.length
      · refine .inr ⟨wd.go G2 H2 i e2 m2.s.ex hlt, fun H' => i + 1 ≤ ds.length ∧ ∃ G2 ρ2 pre us, Ex G1 G2 ∧ pre.length ≤ i + 1 ∧ Mk1 K B G2 H' (L2.wipe σ vs) ρ2 p us ∧ RepL K B.T G2 pre us ∧ PostC K B G1 (L2.wipe σ vs) p (fun H' => Q (.ref p) H') pre (loopC vs t c el (ds.drop (i + 1)) ρ2),
          fun H' w => ⟨ds.length - (i + 1), by omega, rfl, w⟩, fun x H3 y => ?_⟩
        obtain ⟨G3, d, hd, gr, rx⟩ := wd.yld G2 H2 i x H3 e2 m2.s.ex hlt y
        have hdr : ds.drop i = d :: ds.drop (i + 1) := by
          rw [List.drop_eq_getElem_cons hlt]
          congr 1
          rw [List.getElem?_eq_getElem hlt] at hd
          exact Option.some.inj hd
        rw [hdr] at q2
        have m3 := m2.grow gr
        refine turn_read ht (by omega) (e2.trans gr.e) m3 (r2.mono gr.e) rx q2 fun G' H' ρ' pre' us' e' hl' m' r' q' => ⟨hlt, G', ρ', pre', us', e', by omega, m', r', q'⟩
      · have e : i = ds.length := by omega
        subst e
        rw [List.drop_length] at q2
        exact .inl ⟨wd.stop G2 H2 e2 m2.s.ex, q2 G2 H2 us e2 m2 (by rw [List.append_nil]; exact r2)⟩
    · rw [if_neg hok] at q; exact q.elim
theorem pe_co {elt : Expr} {ifs : List Expr} {scope : Scope} {own : List (Str × Nat)} {pos : Pos} {F : ITf} {t : Tg} {c : TFn} {el : EF} (hc : X.calm = true) (hN : X.N.Nodup) (hi : PI X tg iter (tI X.K B F)) (ok : BlkOk X.N X.env.scope scope own) (ht : t.inn (own.map (·.2)))
    (hg : ∀ (s : Shared) (H : Hp) (C : Addr) (cl : List (Str × Addr)) (fp : List Addr) h0 g0 mm, PG (X.blk s H scope (compEnvC scope cl C X.env) fp) tg (tG X.K (bb B h0 g0 mm) t))
    (hq : ∀ (s : Shared) (H : Hp) (C : Addr) (cl : List (Str × Addr)) (fp : List Addr) h0 g0 mm, PTs (X.blk s H scope (compEnvC scope cl C X.env) fp) ifs (tT X.K (bb B h0 g0 mm) c))
    (he : ∀ (s : Shared) (H : Hp) (C : Addr) (cl : List (Str × Addr)) (fp : List Addr) h0 g0 mm, PE (X.blk s H scope (compEnvC scope cl C X.env) fp) elt (tF X.K (bb B h0 g0 mm) el)) (hs : ∀ x, foldedSetIterable iter X.env x = pure x := by intro _; rfl) :
    PE X (.ListComp elt [⟨tg, iter, ifs, 0⟩] scope pos) (tF X.K B (fLc (own.map (·.2)) F t c el)) :=
  PE.imp (pe_lc hc hN hi ok (fun s H C cl fp => pg_a (X := X.blk s H scope (compEnvC scope cl C X.env) fp) (hg s H C cl fp)) (fun s H C cl fp => pts_a (X := X.blk s H scope (compEnvC scope cl C X.env) fp) (hq s H C cl fp)) (fun s H C cl fp => pe_a (X := X.blk s H scope (compEnvC scope cl C X.env) fp) (he s H C cl fp)) hs)
    fun σ H Q ⟨G, ρ, S, q⟩ => lc_read ht S q
/-- name = [..] -/
theorem ps_co {i : Nat} {y : Str} {py : Pos} {elt : Expr} {ifs : List Expr} {scope : Scope} {own : List (Str × Nat)} {pos spos : Pos} {F : ITf} {t : Tg} {c : TFn} {el : EF} (hc : X.calm = true) (hN : X.N.Nodup) (hy : X.N[i]? = some y) (hyl : X.env.scope.names.lookup y = some .local)
    (hsw : swapsWith (.ListComp elt [⟨tg, iter, ifs, 0⟩] scope pos) (some (.Name y py)) spos.line X.env = pure true) (hi : PI X tg iter (tI X.K B F)) (ok : BlkOk X.N X.env.scope scope own) (ht : t.inn (own.map (·.2)))
    (hg : ∀ (s : Shared) (H : Hp) (C : Addr) (cl : List (Str × Addr)) (fp : List Addr) h0 g0 mm, PG (X.blk s H scope (compEnvC scope cl C X.env) fp) tg (tG X.K (bb B h0 g0 mm) t))
    (hq : ∀ (s : Shared) (H : Hp) (C : Addr) (cl : List (Str × Addr)) (fp : List Addr) h0 g0 mm, PTs (X.blk s H scope (compEnvC scope cl C X.env) fp) ifs (tT X.K (bb B h0 g0 mm) c))
    (he : ∀ (s : Shared) (H : Hp) (C : Addr) (cl : List (Str × Addr)) (fp : List Addr) h0 g0 mm, PE (X.blk s H scope (compEnvC scope cl C X.env) fp) elt (tF X.K (bb B h0 g0 mm) el)) (hs : ∀ x, foldedSetIterable iter X.env x = pure x := by intro _; rfl) :
    PS X (.Assign [.Name y py] (.ListComp elt [⟨tg, iter, ifs, 0⟩] scope pos) spos) (tS X.K B (sAsg (.n i) (fLc (own.map (·.2)) F t c el))) :=
  PS.imp (ps_setLc hc hN hy hyl hsw hi ok (fun s H C cl fp => pg_a (X := X.blk s H scope (compEnvC scope cl C X.env) fp) (hg s H C cl fp)) (fun s H C cl fp => pts_a (X := X.blk s H scope (compEnvC scope cl C X.env) fp) (hq s H C cl fp)) (fun s H C cl fp => pe_a (X := X.blk s H scope (compEnvC scope cl C X.env) fp) (he s H C cl fp)) hs)
    fun D σ H ⟨G, ρ, S, q⟩ => by
      have lift : ∀ {σ H Q}, tF X.K B (fLc (own.map (·.2)) F t c el) σ H Q → tLc (tI X.K B F) (tGa X.K B t) (tTa X.K B c) (tFa X.K B el) (own.map (·.2)) σ H Q := fun {σ H Q} ⟨G, ρ, S, q⟩ => lc_read ht S q
      have r : tAsg (tF X.K B (fLc (own.map (·.2)) F t c el)) (tG X.K B (.n i)) D σ H := asg_read S q
      exact lift (show tF X.K B (fLc (own.map (·.2)) F t c el) σ H (fun x H1 => gName i x σ H1 D.nx) from by
        obtain ⟨G', ρ', S', q'⟩ := r
        refine ⟨G', ρ', S', ?_⟩
        cases h : fLc (own.map (·.2)) F t c el ρ' with
        | ok fl d ρ1 =>
          rw [h] at q'
          intro G1 H1 v e1 S1 k1
          obtain ⟨G2, ρ2, fl2, d2, S2, k2, q2⟩ := q' G1 H1 v e1 S1 k1
          exact q2 G2 (σ.set i (some v)) (Ex.refl _) (S2.set i k2) ⟨List.length_set .., fun k hk => List.getElem?_set_ne (fun e => hk e.symm)⟩
        | ex x ρ1 => rw [h] at q'; exact q'
        | no => rw [h] at q'; exact q')

/-! ### changing an own object, a name -/
/-- what a change gives: its answer, the object behind it -/
abbrev Mu := D → List D → Option (D × D)
def MutV (K : PySem.W.Frag) (T : Tab) (r : V → List V → Hp → VK → Prop) (mu : Mu) : Prop :=
  ∀ (G H : Hp) (p : Addr) (vs : List V) (ds : List D) (d0 d1 res : D) (Q : VK), Exr G H → Own K T G H p d0 → G p = none → RepL K T G ds vs → mu d0 ds = some (res, d1) →
    (∀ o v, Own K T G (upd H p o) p d1 → Rep K T G res v → Q v (upd H p o)) → r (.ref p) vs H Q
def fMut (tyOk : D → Bool) (mu : Mu) (i : Nat) (os : List Opd) : EF := fun ρ => match ρ[i]? with
  | some (some (_, dd)) => if tyOk dd = true then (match evOs os ρ with
    | .ok hs ρ1 => match vals hs, ρ1[i]? with
      | some ds, some (some (fl, d0)) => if fl = .fz then .no else match mu d0 ds with
        | some (res, d1) => .ok false res (ρ1.set i (some (fl, d1)))
        | none => .no
      | _, _ => .no
    | .ex x ρ1 => .ex x ρ1
    | .no => .no) else .no
  | _ => .no
theorem Sim.own (S : Sim K B G H σ ρ) {i : Nat} {fl : Fl} {d0 : D} (hi : ρ[i]? = some (some (fl, d0))) (hn : fl ≠ .fz) : ∃ p, σ[i]? = some (some (.ref p)) ∧ Own K B.T G H p d0 ∧ G p = none := by
  obtain ⟨v, ev, sk⟩ := S.sl i fl d0 hi
  cases fl with
  | fz => exact absurd rfl hn
  | ow => obtain ⟨p, e, ho, hg, _⟩ := sk; subst e; exact ⟨p, ev, ho, hg⟩
  | bo => obtain ⟨p, e, ho, hg, _⟩ := sk; subst e; exact ⟨p, ev, ho, hg⟩
theorem Sim.put (S : Sim K B G H σ ρ) {i : Nat} {fl : Fl} {d0 d1 : D} {p : Addr} {o : HO} (hi : ρ[i]? = some (some (fl, d0))) (hn : fl ≠ .fz) (hp : σ[i]? = some (some (.ref p))) (hg : G p = none) (ho : Own K B.T G (upd H p o) p d1) : Sim K B G (upd H p o) σ (ρ.set i (some (fl, d1))) :=
  have ok : Okp H p := by
    obtain ⟨q, e, ho0, _⟩ := S.own hi hn
    rw [hp] at e; cases e
    obtain ⟨u, hu⟩ := ho0.has
    exact .inr ⟨u, hu, ho0.ntb hu, ho0.nex hu⟩
  S.io hi hn hp (Ex.refl _) (S.ex.poke ok hg) (fun _ _ h => .inl h) (fun a u ne h _ => by rw [upd_ne ne]; exact h) (fun a h => upd_none h) ho
theorem mut_read {Tn : String} {tyOk : D → Bool} {mu : Mu} {i : Nat} {os : List Opd} {r : V → List V → Hp → VK → Prop} (hm : MutV K B.T r mu) (hty : ∀ (G H : Hp) (v : V) (d : D), Exr G H → Cont K B.T G H v d → tyOk d = true → tyV K Tn v H) (S : Sim K B G H σ ρ) (q : PostE K B G σ Q (fMut tyOk mu i os ρ)) :
    tBM K Tn r (tVar i) (tOs K B os) σ H Q := by
  dsimp only [fMut] at q
  split at q
  · rename_i fl dd hi
    obtain ⟨v0, ev, sk⟩ := S.sl i fl dd hi
    by_cases ht : tyOk dd = true
    · rw [if_pos ht] at q
      have c0 : Cont K B.T G H v0 dd := Hd.get_ok (h := .sl i) S ev (by dsimp only [Hd.get]; rw [hi])
      refine ⟨v0, ev, hty G H v0 dd S.ex c0 ht, tOs_run S ?_⟩
      cases h1 : evOs os ρ with
      | ex x ρ1 => rw [h1] at q; exact q
      | no => rw [h1] at q; exact q
      | ok hs ρ1 =>
        rw [h1] at q
        intro G1 H1 us e1 S1 k1
        dsimp only at q
        split at q
        · rename_i ds fl1 d0 h2 h3
          by_cases hf : fl1 = .fz
          · rw [if_pos hf] at q; exact q.elim
          · rw [if_neg hf] at q
            obtain ⟨p, ep, ho, hg⟩ := S1.own h3 hf
            rw [ev] at ep; cases ep
            cases h4 : mu d0 ds with
            | none => rw [h4] at q; exact q.elim
            | some z =>
              obtain ⟨res, d1⟩ := z
              rw [h4] at q
              exact hm G1 H1 p us ds d0 d1 res Q S1.ex ho hg (vals_ok k1 h2) h4 fun o v ho' rr => q G1 _ v e1 (S1.put h3 hf ev hg ho') rr
        · exact q.elim
    · rw [if_neg ht] at q; exact q.elim
  · exact q.elim
def isLst : D → Bool
  | .lst _ => true | _ => false
theorem ty_lst (G H : Hp) (v : V) (d : D) (x : Exr G H) (c : Cont K T G H v d) (h : isLst d = true) : tyV K "list" v H := by
  cases d with
  | lst ds => obtain ⟨p, vs, e, s, _⟩ := c.lst x; subst e; exact .inl ⟨rfl, _, SqL.of s⟩
  | _ => cases h
def muAppend : Mu
  | .lst ds, [d] => if ds.length < 100000 then some (.non, .lst (ds ++ [d])) else none
  | _, _ => none
theorem mv_append : MutV K T rAppend muAppend := fun G H p vs ds d0 d1 res Q x ho hg r hm k => by
  unfold muAppend at hm
  split at hm
  · rename_i l d
    split at hm
    · rename_i hl
      cases hm
      obtain ⟨xs, hp, rx⟩ := ho
      obtain ⟨v, w, e, r1, r2⟩ := r
      cases r2
      subst e
      exact ⟨p, xs, v, rfl, rfl, hp, by rw [rx.len]; exact Nat.lt_of_lt_of_le hl (by decide), k _ _ ⟨_, upd_same, rx.append (RepL.one r1)⟩ rfl⟩
    · cases hm
  · cases hm
theorem pe_app {o : Expr} {i : Nat} {os : List Opd} {apos cpos} (ho : PE X o (tVar i)) (ha : PA X (e :: es) (tOs X.K B os)) (hbase : attributeBase o "append" X.env (eval o X.env) = eval o X.env := by rfl)
    (hfew : ((backTo cpos (starEach (e :: es) X.env)).all (fun x => !x.1) && (backToKw cpos (keywordEach [] X.env)).all (fun x => x.1.isSome)
      && decide ((e :: es).length + ([] : List Keyword).length + (if ([] : List Keyword).isEmpty then 0 else 1) < 30)) = true := by rfl)
    (hline : (apos.endLine == cpos.line) = true := by rfl) (hs : starEach (e :: es) X.env = (false, eval e X.env) :: starEach es X.env := by rfl) (hplain : (backTo cpos (starEach es X.env)).any (·.1) = false := by rfl) :
    PE X (.Call (.Attribute o "append" apos) (e :: es) [] cpos) (tF X.K B (fMut isLst muAppend i os)) :=
  PE.imp (pe_bm PySem.F.plainAttrs_list PySem.F.slot_list_append PySem.F.type_list_append mt_append ho ha hbase hfew hline hs hplain) fun σ H Q ⟨G, ρ, S, q⟩ => mut_read mv_append ty_lst S q
/-! x[i] = e -/
def muSet : D → D → D → Option D
  | .lst ds, .int k, d => match ixN ds.length k with | some j => some (.lst (ds.set j d)) | none => none
  | .dK kvs, k, d => match kOf k with | some k => if kvs.length < 100000 then some (.dK (putD kvs k d)) else none | none => none
  | .dT kvs, .tup ks, d => match ksOf ks with | some k => if kvs.length < 100000 then some (.dT (putD kvs k d)) else none | none => none
  | _, _, _ => none
def sSet (i : Nat) (g : Opd) (f : EF) : SF := fun ρ => match f ρ with
  | .ok _ d ρ1 => match ρ1[i]? with
    | some (some _) => match evO g ρ1 with
      | .ok h ρ2 => match ρ2[i]?, h.get ρ2 with
        | some (some (fl, d0)), some k => if fl = .fz then .no else match muSet d0 k d with
          | some d1 => .nx (ρ2.set i (some (fl, d1)))
          | none => .no
        | _, _ => .no
      | .ex _ _ => .no
      | .no => .no
    | _ => .no
  | .ex x ρ1 => .ex x ρ1
  | .no => .no
theorem set_run {i : Nat} {g : Opd} {f : EF} {R : V → V → V → Hp → (Hp → Prop) → Prop} (hR : ∀ (G H : Hp) (p : Addr) (w y : V) (d0 k d d1 : D) (Qn : Hp → Prop), Exr G H → Own K B.T G H p d0 → G p = none → Cont K B.T G H w k → Rep K B.T G d y → muSet d0 k d = some d1 → (match d0 with | .lst _ => True | _ => False) →
      (∀ o, Own K B.T G (upd H p o) p d1 → Qn (upd H p o)) → R (.ref p) w y H Qn)
    (hR2 : ∀ (G H : Hp) (p : Addr) (w y : V) (d0 k d d1 : D) (Qn : Hp → Prop), Exr G H → Own K B.T G H p d0 → G p = none → Cont K B.T G H w k → Rep K B.T G d y → muSet d0 k d = some d1 → (match d0 with | .lst _ => False | _ => True) →
      (∀ o, Own K B.T G (upd H p o) p d1 → Qn (upd H p o)) → ∃ H4, DPut H p w y H4 ∧ Qn H4)
    (S : Sim K B G H σ ρ) (q : PostS K B G Dn (sSet i g f ρ)) :
    tAsg (tF K B f) (fun v σ H Q => tVar i σ H fun o H1 => tO K B g σ H1 fun k H2 => R o k v H2 fun H3 => Q σ H3) Dn σ H ∨ sDPut (tVar i) (tO K B g) (tF K B f) Dn σ H := by
  dsimp only [sSet] at q
  cases h1 : f ρ with
  | ex x ρ1 => exact .inl ⟨G, ρ, S, by rw [h1] at q ⊢; exact q⟩
  | no => rw [h1] at q; exact q.elim
  | ok fl0 d ρ1 =>
    rw [h1] at q
    dsimp only at q
    split at q
    · rename_i sl hsl
      obtain ⟨fl1, dd⟩ := sl
      cases h2 : evO g ρ1 with
      | ex x ρ2 => rw [h2] at q; exact q.elim
      | no => rw [h2] at q; exact q.elim
      | ok hd ρ2 =>
        rw [h2] at q
        dsimp only at q
        split at q
        · rename_i fl d0 k h3 h4
          by_cases hf : fl = .fz
          · rw [if_pos hf] at q; exact q.elim
          · rw [if_neg hf] at q
            cases h5 : muSet d0 k d with
            | none => rw [h5] at q; exact q.elim
            | some d1 =>
              rw [h5] at q
              have main : ∀ (P : V → V → V → Hp → (Hp → Prop) → Prop), (∀ (G H : Hp) (p : Addr) (w y : V) (Qn : Hp → Prop), Exr G H → Own K B.T G H p d0 → G p = none → Cont K B.T G H w k → Rep K B.T G d y → (∀ o, Own K B.T G (upd H p o) p d1 → Qn (upd H p o)) → P (.ref p) w y H Qn) →
                  tF K B f σ H fun y H1 => tVar i σ H1 fun o H2 => tO K B g σ H2 fun w H3 => P o w y H3 fun H4 => Dn.nx σ H4 := fun P hP => by
                refine ⟨G, ρ, S, PostZ.toE ?_⟩
                rw [h1]
                intro G1 H1 y e1 S1 k1
                obtain ⟨v0, ev, _⟩ := S1.sl i fl1 dd hsl
                refine ⟨v0, ev, tO_run S1 ?_⟩
                rw [h2]
                intro G2 H2 w e2 S2 k2
                obtain ⟨p, ep, ho, hg⟩ := S2.own h3 hf
                rw [ev] at ep; cases ep
                exact hP G2 H2 p w y _ S2.ex ho hg (Hd.get_ok S2 k2 h4) (k1.mono e2) fun o ho' => q G2 _ σ (e1.trans e2) (S2.put h3 hf ev hg ho')
              cases d0 with
              | lst ds => exact .inl (main R fun G H p w y Qn a b c dd' e' f' => hR G H p w y (.lst ds) k d d1 Qn a b c dd' e' h5 trivial f')
              | dK kvs =>
                refine .inr ?_
                have := main (fun o w y H Qn => ∃ a H4, o = .ref a ∧ DPut H a w y H4 ∧ Qn H4) fun G H p w y Qn a b c dd' e' f' => by
                  obtain ⟨H4, x1, x2⟩ := hR2 G H p w y (.dK kvs) k d d1 Qn a b c dd' e' h5 trivial f'
                  exact ⟨p, H4, rfl, x1, x2⟩
                exact this
              | dT kvs =>
                refine .inr ?_
                have := main (fun o w y H Qn => ∃ a H4, o = .ref a ∧ DPut H a w y H4 ∧ Qn H4) fun G H p w y Qn a b c dd' e' f' => by
                  obtain ⟨H4, x1, x2⟩ := hR2 G H p w y (.dT kvs) k d d1 Qn a b c dd' e' h5 trivial f'
                  exact ⟨p, H4, rfl, x1, x2⟩
                exact this
              | _ => cases h5
        · exact q.elim
    · exact q.elim
theorem RepP.put {k : Key} {d : D} {y : V} (hy : Rep K T G d y) : ∀ {kvs : List (Key × D)} {vs : List (Key × V)}, RepP K T G kvs vs → RepP K T G (putD kvs k d) (putK vs k y) := fun {kvs vs} r => by
  have key : ∀ {kvs : List (Key × D)} {vs : List (Key × V)}, RepP K T G kvs vs → (kvs.any fun kv => decide (kv.1 = k)) = (vs.any fun kv => decide (kv.1 = k)) ∧ RepP K T G (kvs.map fun kv => if kv.1 = k then (kv.1, d) else kv) (vs.map fun kv => if kv.1 = k then (kv.1, y) else kv) ∧ RepP K T G (kvs ++ [(k, d)]) (vs ++ [(k, y)]) := by
    intro kvs
    induction kvs with
    | nil => intro vs r; cases r; exact ⟨rfl, rfl, y, [], rfl, hy, rfl⟩
    | cons a kvs ih =>
      obtain ⟨a, d'⟩ := a
      intro vs r
      obtain ⟨v, w, e, r1, r2⟩ := r
      subst e
      obtain ⟨x1, x2, x3⟩ := ih r2
      refine ⟨by rw [List.any_cons, List.any_cons, x1], ?_, v, _, rfl, r1, x3⟩
      rw [List.map_cons, List.map_cons]
      by_cases hz : a = k
      · rw [if_pos hz, if_pos hz]; exact ⟨y, _, rfl, hy, x2⟩
      · rw [if_neg hz, if_neg hz]; exact ⟨v, _, rfl, r1, x2⟩
  obtain ⟨x1, x2, x3⟩ := key r
  unfold putD putK
  rw [x1]
  split
  · exact x2
  · exact x3
theorem RepQ.put {k : List Key} {d : D} {y : V} (hy : Rep K T G d y) : ∀ {kvs : List (List Key × D)} {vs : List (List Key × V)}, RepQ K T G kvs vs → RepQ K T G (putD kvs k d) (putK vs k y) := fun {kvs vs} r => by
  have key : ∀ {kvs : List (List Key × D)} {vs : List (List Key × V)}, RepQ K T G kvs vs → (kvs.any fun kv => decide (kv.1 = k)) = (vs.any fun kv => decide (kv.1 = k)) ∧ RepQ K T G (kvs.map fun kv => if kv.1 = k then (kv.1, d) else kv) (vs.map fun kv => if kv.1 = k then (kv.1, y) else kv) ∧ RepQ K T G (kvs ++ [(k, d)]) (vs ++ [(k, y)]) := by
    intro kvs
    induction kvs with
    | nil => intro vs r; cases r; exact ⟨rfl, rfl, y, [], rfl, hy, rfl⟩
    | cons a kvs ih =>
      obtain ⟨a, d'⟩ := a
      intro vs r
      obtain ⟨v, w, e, r1, r2⟩ := r
      subst e
      obtain ⟨x1, x2, x3⟩ := ih r2
      refine ⟨by rw [List.any_cons, List.any_cons, x1], ?_, v, _, rfl, r1, x3⟩
      rw [List.map_cons, List.map_cons]
      by_cases hz : a = k
      · rw [if_pos hz, if_pos hz]; exact ⟨y, _, rfl, hy, x2⟩
      · rw [if_neg hz, if_neg hz]; exact ⟨v, _, rfl, r1, x2⟩
  obtain ⟨x1, x2, x3⟩ := key r
  unfold putD putK
  rw [x1]
  split
  · exact x2
  · exact x3
theorem RepP.len : ∀ {kvs : List (Key × D)} {vs : List (Key × V)}, RepP K T G kvs vs → vs.length = kvs.length
  | [], _, h => by cases h; rfl
  | (_, _) :: _, _, ⟨v, r, h1, h2, h3⟩ => by subst h1; simp [RepP.len h3]
theorem RepQ.len : ∀ {kvs : List (List Key × D)} {vs : List (List Key × V)}, RepQ K T G kvs vs → vs.length = kvs.length
  | [], _, h => by cases h; rfl
  | (_, _) :: _, _, ⟨v, r, h1, h2, h3⟩ => by subst h1; simp [RepQ.len h3]
theorem ps_set' (hu : X.A.units + 65 < cLine) {o i value : Expr} {j : Nat} {g : Opd} {f : EF} {pos' pos} (ho : PE X o (tVar j)) (hi : PE X i (tO X.K B g)) (hv : PE X value (tF X.K B f))
    (hs : swapsWith value (some (.Subscript o i pos')) pos.line X.env = pure false := by rfl)
    (ha : ∀ v, assign (.Subscript o i pos') X.env v = (do
      let ov ← holding [v] (eval o X.env)
      let iv ← holding [v, ov] (eval i X.env)
      standAt pos'
      holding [v, ov, iv] (setItem ov iv v)
      release [v, ov, iv] []) := by intro _; rfl)
    (hs1 : swapsWithSole [.Subscript o i pos'] value pos.line X.env = pure false := by rfl) (hw : swappedStores [.Subscript o i pos'] value X.env = pure none := by rfl)
    (h1 : (assignEach [.Subscript o i pos'] X.env).map (·.2) = [assign (.Subscript o i pos') X.env] := by rfl) :
    PS X (.Assign [.Subscript o i pos'] value pos) (tS X.K B (sSet j g f)) :=
  PS.imp (PS.or (ps_asg hv (pg_sub ho hi set_list ha) hs1 hw h1) (ps_dput (by omega) ho hi hv hs)) fun D σ H ⟨G, ρ, S, q⟩ =>
    set_run (fun G H p w y d0 k d d1 Qn x ho hg ck ry hm ht hq => by
      cases d0 with
      | lst ds =>
        obtain ⟨xs, hp, rx⟩ := ho
        cases k with
        | int k =>
          dsimp only [muSet] at hm
          cases hx : ixN ds.length k with
          | none => rw [hx] at hm; cases hm
          | some n =>
            rw [hx] at hm
            cases hm
            exact ⟨p, xs, k, n, rfl, ck.int, hp, by rw [rx.len]; exact hx, hq _ ⟨_, upd_same, rx.set n ry⟩⟩
        | _ => cases hm
      | _ => exact ht.elim)
    (fun G H p w y d0 k d d1 Qn x ho hg ck ry hm ht hq => by
      cases d0 with
      | lst ds => exact ht.elim
      | dK kvs =>
        obtain ⟨xs, hp, rx⟩ := ho
        dsimp only [muSet] at hm
        cases hk : kOf k with
        | none => rw [hk] at hm; cases hm
        | some kk =>
          rw [hk] at hm
          dsimp only at hm
          split at hm
          · rename_i hl
            cases hm
            exact ⟨_, .inl ⟨xs, kk, hp, kOf_rel hk ck, by rw [rx.len]; exact Nat.lt_of_lt_of_le hl (by decide), rfl⟩, hq _ ⟨_, upd_same, rx.put ry⟩⟩
          · cases hm
      | dT kvs =>
        obtain ⟨xs, hp, rx⟩ := ho
        cases k with
        | tup ks =>
          dsimp only [muSet] at hm
          cases hk : ksOf ks with
          | none => rw [hk] at hm; cases hm
          | some kk =>
            rw [hk] at hm
            dsimp only at hm
            split at hm
            · rename_i hl
              cases hm
              obtain ⟨b, us, e, hb, rb⟩ := ck.tup x
              exact ⟨_, .inr ⟨xs, kk, b, hp, e, by rw [hb, ksOf_rel hk rb], by rw [rx.len]; exact Nat.lt_of_lt_of_le hl (by decide), rfl⟩, hq _ ⟨_, upd_same, rx.put ry⟩⟩
            · cases hm
        | _ => cases hm
      | _ => cases hm) S q
end
end Pf
/-! part Pf8 -/
set_option Elab.async false
set_option linter.all false
set_option maxRecDepth 100000
/-! Pf8: own classes; texts; more built-ins. -/
namespace Pf
open PySem PySem.Spec PyProof.Rows L2

section
variable {X : Cx} {B : Bs} {K : PySem.W.Frag} {T : Tab} {G G' H H' : Hp} {σ σ' : L2.St} {ρ ρ' : Ve} {Q : VK} {v : V} {e tg iter : Expr} {es : List Expr} {st : Stmt} {rest : List Stmt} {Dn : Ends} {p : Addr}

/-! ### isinstance -/
inductive Cn where
  | b (n : String) | o (c : Nat)
  deriving DecidableEq
def cnV (T : Tab) : Cn → Value
  | .b n => .type n
  | .o c => .ref (T.C c)
def cnW (T : Tab) : Cn → V
  | .b n => .ty n
  | .o c => .ref (T.C c)
def tyN : D → Option Cn
  | .non => some (.b "NoneType") | .bl _ => some (.b "bool") | .int _ => some (.b "int") | .str _ => some (.b "str")
  | .tup _ => some (.b "tuple") | .lst _ => some (.b "list") | .dK _ => some (.b "dict")
  | .ins c _ => some (.o c)
  | _ => none
structure ClsIs (K : PySem.W.Frag) (C : Addr) : Prop where
  cl : Cls K C
  ha : PySem.W.findIn K (.ref C) "__class__" = some (some (.builtin "object.__class__"))
  hn : PySem.W.specialIn K (.builtin "object.__class__") "__get__" = some (some (.builtin "getset_descriptor.__get__"))
  htk : PySem.W.takesIn K (.builtin "object.__class__") = some true
  hm : PySem.W.mroIn K C (.type "object") = some true
abbrev Isa := Cn → Cn → Option Bool
structure IsaOk (K : PySem.W.Frag) (T : Tab) (I : Isa) : Prop where
  one : ∀ t c b, I t c = some b → PySem.W.kitOne K (cnV T t) (cnV T c) = some b
  cls : ∀ k c b, I (.o k) c = some b → ClsIs K (T.C k)
def anyI (I : Isa) (t : Cn) : List Cn → Option Bool
  | [] => some false
  | c :: r => match I t c with
    | some true => some true
    | some false => anyI I t r
    | none => none
theorem anyI_ok {I : Isa} (ok : IsaOk K T I) {t : Cn} : ∀ {cs : List Cn} {b : Bool}, anyI I t cs = some b → PySem.W.kitAny K (cnV T t) (cs.map (cnV T)) = some b
  | [], _, h => h
  | c :: cs, b, h => by
    dsimp only [anyI] at h
    cases q : I t c with
    | none => rw [q] at h; cases h
    | some z =>
      rw [q] at h
      have k := ok.one t c z q
      rw [List.map_cons]
      unfold PySem.W.kitAny
      rw [k]
      cases z with
      | true => exact h
      | false => exact anyI_ok ok h
theorem tyN_ok {I : Isa} (ok : IsaOk K T I) (x : Exr G H) {d : D} {t : Cn} (c : Cont K T G H v d) (h : tyN d = some t) (hc : ∀ k, t = .o k → ClsIs K (T.C k)) : TyX K H v (cnV T t) := by
  cases d with
  | non => cases h; rw [c.non]; exact .base .non
  | bl z => cases h; rw [c.bl]; exact .base (.bl z)
  | int z => cases h; rw [c.int]; exact .base (.int z)
  | str z => cases h; rw [c.str]; exact .base (.str z)
  | tup ds => cases h; obtain ⟨p, vs, e, s, _⟩ := c.tup x; rw [e]; exact .base (.tup s)
  | lst ds => cases h; obtain ⟨p, vs, e, s, _⟩ := c.lst x; rw [e]; exact .base (.lst s)
  | dK ds =>
    cases h
    obtain ⟨p, vs, e, s, _⟩ := c.dK x
    rw [e]
    rcases s with s | ⟨o, s⟩
    · exact .base (.dK s)
    · exact .fDict s
  | ins k ds =>
    cases h
    obtain ⟨p, dx, vs, e, s, _⟩ := c.ins x
    have q := hc k rfl
    rw [e]; exact .base (.ins s q.cl q.ha q.hn q.htk q.hm)
  | _ => cases h
def fIs (I : Isa) (cs : List Cn) (o : Opd) : EF := fun ρ => match evO o ρ with
  | .ok h ρ1 => match h.get ρ1 with
    | some d => match tyN d with
      | some t => match anyI I t cs with
        | some b => .ok false (.bl b) ρ1
        | none => .no
      | none => .no
    | none => .no
  | .ex x ρ1 => .ex x ρ1
  | .no => .no
theorem anyI_cls {I : Isa} (ok : IsaOk K T I) {t : Cn} {c : Cn} {cs : List Cn} {b : Bool} (h : anyI I t (c :: cs) = some b) : ∀ k, t = .o k → ClsIs K (T.C k) := fun k e => by
  subst e
  dsimp only [anyI] at h
  cases q : I (.o k) c with
  | none => rw [q] at h; cases h
  | some z => exact ok.cls k c z q
theorem is_read {I : Isa} (ok : IsaOk K B.T I) {c : Cn} {cs : List Cn} {o : Opd} {R : V → Hp → VK → Prop} (S : Sim K B G H σ ρ) (q : PostE K B G σ Q (fIs I (c :: cs) o ρ))
    (hR : ∀ (G1 H1 : Hp) (x : V) (t : Value) (b : Bool), Exr G1 H1 → TyX K H1 x t → PySem.W.kitAny K t ((c :: cs).map (cnV B.T)) = some b → (∀ G2 H2, Grow G1 H1 G2 H2 → Q (.bl b) H2) → R x H1 Q) :
    tO K B o σ H fun x H1 => R x H1 Q := by
  refine tO_run S ?_
  dsimp only [fIs] at q
  cases h1 : evO o ρ with
  | ex x ρ1 => rw [h1] at q; exact q
  | no => rw [h1] at q; exact q
  | ok h ρ1 =>
    rw [h1] at q
    intro G1 H1 x e1 S1 k1
    dsimp only at q
    cases h2 : h.get ρ1 with
    | none => rw [h2] at q; exact q.elim
    | some d =>
      rw [h2] at q
      dsimp only at q
      cases h3 : tyN d with
      | none => rw [h3] at q; exact q.elim
      | some t =>
        rw [h3] at q
        dsimp only at q
        cases h4 : anyI I t (c :: cs) with
        | none => rw [h4] at q; exact q.elim
        | some b =>
          rw [h4] at q
          exact hR G1 H1 x _ b S1.ex (tyN_ok ok S1.ex (Hd.get_ok S1 k1 h2) h3 (anyI_cls ok h4)) (anyI_ok ok h4) fun G2 H2 g => q G2 H2 _ (e1.trans g.e) (S1.grow g) rfl
theorem clsv {T : Tab} (c : Cn) : ClsV (cnW T c) (cnV T c) := by
  cases c with
  | b n => exact .ty n
  | o c => exact .own _
theorem kitAny1 {t c : Value} {b : Bool} (h : PySem.W.kitAny K t [c] = some b) : PySem.W.kitOne K t c = some b := by
  unfold PySem.W.kitAny at h
  split at h
  · rename_i q; rw [q]; exact h
  · rename_i q; rw [q]; exact h
  · cases h
theorem pe_is1 {I : Isa} (ok : IsaOk X.K B.T I) {a ce : Expr} {c : Cn} {o : Opd} {p pos} (hg : Gl X "isinstance") (hm : X.mg "isinstance" = none) (ha : PE X a (tO X.K B o)) (hc : PE X ce (tC (cnW B.T c)))
    (h1 : starEach [a, ce] X.env = (false, eval a X.env) :: starEach [ce] X.env := by rfl) (h2 : starEach [ce] X.env = (false, eval ce X.env) :: starEach [] X.env := by rfl) (hpl : (backTo pos (starEach [ce] X.env)).any (·.1) = false := by rfl) :
    PE X (.Call (.Name "isinstance" p) [a, ce] [] pos) (tF X.K B (fIs I [c] o)) :=
  PE.imp (pe_callB call_isi hg hm (by decide +kernel) (pa_cons ha (pa_cons hc pa_nil h2) h1) (by decide) (by decide) h1 hpl) fun σ H Q ⟨G, ρ, S, q⟩ =>
    is_read (R := fun x H1 Q => tC (cnW B.T c) σ H1 fun y H2 => rIsi X.K [x, y] H2 Q) ok S q fun G1 H1 x t b ex ty k kQ => ⟨x, _, t, _, b, rfl, clsv c, ty, kitAny1 k, kQ G1 H1 (Grow.refl ex)⟩
theorem pe_is2 {I : Isa} (ok : IsaOk X.K B.T I) {a c1 c2 : Expr} {n1 n2 : Cn} {o : Opd} {p pos kk tpos} (hg : Gl X "isinstance") (hm : X.mg "isinstance" = none) (ha : PE X a (tO X.K B o)) (hc1 : PE X c1 (tC (cnW B.T n1))) (hc2 : PE X c2 (tC (cnW B.T n2)))
    (h1 : starEach [a, .Tuple [c1, c2] kk tpos] X.env = (false, eval a X.env) :: starEach [.Tuple [c1, c2] kk tpos] X.env := by rfl) (h2 : starEach [.Tuple [c1, c2] kk tpos] X.env = (false, eval (.Tuple [c1, c2] kk tpos) X.env) :: starEach [] X.env := by rfl)
    (h3 : starEach [c1, c2] X.env = (false, eval c1 X.env) :: starEach [c2] X.env := by rfl) (h4 : starEach [c2] X.env = (false, eval c2 X.env) :: starEach [] X.env := by rfl)
    (hpl : (backTo pos (starEach [.Tuple [c1, c2] kk tpos] X.env)).any (·.1) = false := by rfl) :
    PE X (.Call (.Name "isinstance" p) [a, .Tuple [c1, c2] kk tpos] [] pos) (tF X.K B (fIs I [n1, n2] o)) :=
  PE.imp (pe_callB call_isiT hg hm (by decide +kernel) (pa_cons ha (pa_cons (pe_tup (pa_cons hc1 (pa_cons hc2 pa_nil h4) h3)) pa_nil h2) h1) (by decide) (by decide) h1 hpl) fun σ H Q ⟨G, ρ, S, q⟩ =>
    is_read (R := fun x H1 Q => tTup (tCons (tC (cnW B.T n1)) (tCons (tC (cnW B.T n2)) tNil)) σ H1 fun y H2 => rIsiT X.K [x, y] H2 Q) ok S q fun G1 H1 x t b ex ty k kQ => by
      refine ⟨by show 2 ≤ sizeLine; decide, fun p hp => ?_⟩
      have g : Grow G1 H1 (upd G1 p (.tup [cnW B.T n1, cnW B.T n2])) (upd H1 p (.tup [cnW B.T n1, cnW B.T n2])) := Grow.keep ex hp
      refine ⟨x, p, _, t, _, b, rfl, upd_same, .cons (clsv n1) (.cons (clsv n2) .nil), ?_, k, kQ _ _ g⟩
      cases ty with
      | base h =>
        refine .base ?_
        cases h with
        | non => exact .non
        | bl b => exact .bl b
        | int b => exact .int b
        | str b => exact .str b
        | flt b => exact .flt b
        | lst e => exact .lst (g.f _ _ e rfl)
        | frz e => exact .frz (g.f _ _ e rfl)
        | tup e => exact .tup (g.f _ _ e rfl)
        | dK e => exact .dK (g.f _ _ e rfl)
        | dT e => exact .dT (g.f _ _ e rfl)
        | ins e a b c d f => exact .ins (g.f _ _ e rfl) a b c d f
      | byt b => exact .byt b
      | set e => exact .set (g.f _ _ e rfl)
      | kList e c => exact .kList e c
      | kTuple e c => exact .kTuple e c
      | kDict e c => exact .kDict e c
      | fTuple e => exact .fTuple (g.f _ _ e rfl)
      | fDict e => exact .fDict (g.f _ _ e rfl)

/-! ### methods of built-in types -/
def fMe (chk : D → Bool) (pr : Pr) (o : Opd) (os : List Opd) : EF := fun ρ => match evO o ρ with
  | .ok h ρ1 => match h.get ρ1 with
    | some d => if chk d = true then (match evOs os ρ1 with
      | .ok hs ρ2 => match getAll ρ2 (h :: hs) with
        | some ds => match pr ds with
          | some (fl, r) => .ok fl r ρ2
          | none => .no
        | none => .no
      | .ex x ρ2 => .ex x ρ2
      | .no => .no) else .no
    | none => .no
  | .ex x ρ1 => .ex x ρ1
  | .no => .no
def rcof (r : V → List V → Hp → VK → Prop) : List V → Hp → VK → Prop := fun vs H Q => match vs with
  | x :: ys => r x ys H Q
  | [] => False
theorem me_read {chk : D → Bool} {pr : Pr} {o : Opd} {os : List Opd} {C : V → Hp → Prop} {r : V → List V → Hp → VK → Prop} (hC : ∀ G H v d, Exr G H → Cont K B.T G H v d → chk d = true → C v H) (hv : CallV K B.T (rcof r) pr) (S : Sim K B G H σ ρ) (q : PostE K B G σ Q (fMe chk pr o os ρ)) :
    tO K B o σ H fun x H1 => C x H1 ∧ tOs K B os σ H1 fun xs H2 => r x xs H2 Q := by
  refine tO_run S ?_
  dsimp only [fMe] at q
  cases h1 : evO o ρ with
  | ex x ρ1 => rw [h1] at q; exact q
  | no => rw [h1] at q; exact q
  | ok h ρ1 =>
    rw [h1] at q
    intro G1 H1 x e1 S1 k1
    dsimp only at q
    cases h2 : h.get ρ1 with
    | none => rw [h2] at q; exact q.elim
    | some d =>
      rw [h2] at q
      dsimp only at q
      by_cases hc : chk d = true
      · rw [if_pos hc] at q
        refine ⟨hC G1 H1 x d S1.ex (Hd.get_ok S1 k1 h2) hc, tOs_run S1 ?_⟩
        cases h3 : evOs os ρ1 with
        | ex x ρ2 => rw [h3] at q; exact q
        | no => rw [h3] at q; exact q
        | ok hs ρ2 =>
          rw [h3] at q
          intro G2 H2 ys e2 S2 k2
          dsimp only at q
          cases h4 : getAll ρ2 (h :: hs) with
          | none => rw [h4] at q; exact q.elim
          | some ds =>
            rw [h4] at q
            dsimp only at q
            cases h5 : pr ds with
            | none => rw [h5] at q; exact q.elim
            | some z =>
              obtain ⟨fl, d'⟩ := z
              rw [h5] at q
              exact hv G2 H2 (x :: ys) ds fl d' Q S2.ex (getAll_ok S2 (hs := h :: hs) ⟨k1.mono e2, k2⟩ h4) h5 fun G' H' v n => q G' H' v ((e1.trans e2).trans n.1.e) (S2.grow n.1) (n.val S2)
      · rw [if_neg hc] at q; exact q.elim
def isStr : D → Bool
  | .str _ => true | _ => false
theorem ty_str (G H : Hp) (v : V) (d : D) (x : Exr G H) (c : Cont K T G H v d) (h : isStr d = true) : ∃ a, v = .str a := by
  cases d with
  | str s => exact ⟨s, c.str⟩
  | _ => cases h
/-- s.m() -/
theorem pe_s0 {id : String} {name : Str} {apos pos : Pos} {r : V → List V → Hp → VK → Prop} {pr : Pr} {oe : Expr} {o : Opd} (slot : Slot "str" name id) (ty : typeOf (.builtin id) = pure (.type "method_descriptor")) (rule : MtR X id r) (hv : CallV X.K B.T (rcof r) pr) (ho : PE X oe (tO X.K B o))
    (hbase : attributeBase oe name X.env (eval oe X.env) = eval oe X.env := by rfl) (hline : (apos.endLine == pos.line) = true := by rfl) : PE X (.Call (.Attribute oe name apos) [] [] pos) (tF X.K B (fMe isStr pr o [])) :=
  PE.imp (pe_m0 slot ty rule ho hbase hline) fun σ H Q ⟨G, ρ, S, q⟩ => me_read (os := []) (C := fun x _ => ∃ a, x = .str a) ty_str hv S q
/-- s.m(e) -/
theorem pe_s1 {id : String} {name : Str} {apos pos : Pos} {r : V → List V → Hp → VK → Prop} {pr : Pr} {oe : Expr} {o o1 : Opd} (slot : Slot "str" name id) (ty : typeOf (.builtin id) = pure (.type "method_descriptor")) (rule : MtR X id r) (hv : CallV X.K B.T (rcof r) pr) (ho : PE X oe (tO X.K B o)) (he : PE X e (tO X.K B o1))
    (hs : starEach [e] X.env = [(false, eval e X.env)] := by rfl) (hbase : attributeBase oe name X.env (eval oe X.env) = eval oe X.env := by rfl) (hline : (apos.endLine == pos.line) = true := by rfl) : PE X (.Call (.Attribute oe name apos) [e] [] pos) (tF X.K B (fMe isStr pr o [o1])) :=
  PE.imp (pe_m1 slot ty rule ho he hs hbase hline) fun σ H Q ⟨G, ρ, S, q⟩ => me_read (os := [o1]) (C := fun x _ => ∃ a, x = .str a) ty_str hv S q
def prIsdigit : Pr
  | [.str s] => some (false, .bl (Txt.isdigit s)) | _ => none
theorem cv_isdigit : CallV K T (rcof fun x xs H Q => ∃ a, x = .str a ∧ xs = [] ∧ True ∧ Q (.bl (Txt.isdigit a)) H) prIsdigit := fun G H vs ds fl d Q x c hp k => by
  unfold prIsdigit at hp
  split at hp
  · obtain ⟨u, rfl, c1⟩ := c.one
    cases hp
    exact ⟨_, c1.str, rfl, trivial, k _ _ _ (new_same x rfl)⟩
  · cases hp
theorem pe_isdigit {oe : Expr} {o : Opd} {apos pos : Pos} (ho : PE X oe (tO X.K B o)) (hbase : attributeBase oe "isdigit" X.env (eval oe X.env) = eval oe X.env := by rfl) (hline : (apos.endLine == pos.line) = true := by rfl) : PE X (.Call (.Attribute oe "isdigit" apos) [] [] pos) (tF X.K B (fMe isStr prIsdigit o [])) :=
  pe_s0 PySem.F.slot_str_isdigit PySem.F.type_str_isdigit mt_isdigit cv_isdigit ho hbase hline
theorem repL_strs (K : PySem.W.Frag) (T : Tab) (G : Hp) (ys : List Str) : RepL K T G (ys.map D.str) (ys.map V.str) := RepL.map fun _ => rfl
def prSplit : Pr
  | [.str a, .str b] => if (b.length == 0) = false ∧ a.length ≤ 100000 ∧ (Txt.split a b).length ≤ 100000 then some (true, .lst ((Txt.split a b).map D.str)) else none
  | _ => none
theorem cv_split : CallV K T (rcof fun x xs H Q => ∃ a b, x = .str a ∧ xs = [.str b] ∧ (b.length == 0) = false ∧ a.length + 2 ≤ sizeLine ∧ rNewStrs (Txt.split a b) H Q) prSplit := fun G H vs ds fl d Q x c hp k => by
  unfold prSplit at hp
  split at hp
  · obtain ⟨u, w, rfl, c1, c2⟩ := c.two
    split at hp
    · rename_i a b hz
      cases hp
      exact ⟨a, b, c1.str, by rw [c2.str], hz.1, Nat.le_trans (Nat.add_le_add_right hz.2.1 2) (by decide), fun p h => k _ _ _ (new_lst x h (repL_strs K T G _))⟩
    · cases hp
  · cases hp
theorem pe_spl {oe : Expr} {o o1 : Opd} {apos pos : Pos} (ho : PE X oe (tO X.K B o)) (he : PE X e (tO X.K B o1)) (hs : starEach [e] X.env = [(false, eval e X.env)] := by rfl) (hbase : attributeBase oe "split" X.env (eval oe X.env) = eval oe X.env := by rfl) (hline : (apos.endLine == pos.line) = true := by rfl) :
    PE X (.Call (.Attribute oe "split" apos) [e] [] pos) (tF X.K B (fMe isStr prSplit o [o1])) :=
  pe_s1 PySem.F.slot_str_split PySem.F.type_str_split mt_split cv_split ho he hs hbase hline
/-- texts of data -/
def strsOf : List D → Option (List Str)
  | [] => some []
  | .str i :: ds => match strsOf ds with | some l => some (i :: l) | none => none
  | _ :: _ => none
theorem strsOf_rel : ∀ {ds : List D} {ns : List Str} {vs : List V}, strsOf ds = some ns → RepL K T G ds vs → vs = ns.map V.str
  | [], _, _, h, r => by cases h; cases r; rfl
  | .str i :: ds, ns, _, h, ⟨v, r, e, h1, h2⟩ => by
    subst e
    dsimp only [strsOf] at h
    split at h
    · rename_i l hl
      cases h
      rw [List.map_cons, ← strsOf_rel hl h2, show v = V.str i from h1]
    · cases h
  | .non :: _, _, _, h, _ => by cases h
  | .bl _ :: _, _, _, h, _ => by cases h
  | .int _ :: _, _, _, h, _ => by cases h
  | .tup _ :: _, _, _, h, _ => by cases h
  | .lst _ :: _, _, _, h, _ => by cases h
  | .rol _ :: _, _, _, h, _ => by cases h
  | .rot _ :: _, _, _, h, _ => by cases h
  | .dK _ :: _, _, _, h, _ => by cases h
  | .dT _ :: _, _, _, h, _ => by cases h
  | .ins _ _ :: _, _, _, h, _ => by cases h
  | .exc _ _ :: _, _, _, h, _ => by cases h
  | .lam :: _, _, _, h, _ => by cases h
def prJoin : Pr
  | [.str a, b] => match seqOf b with
    | some ds => match strsOf ds with
      | some ys => if (ys.map (·.length)).sum + ys.length * a.length ≤ 100000 then some (false, .str (Txt.join a ys)) else none
      | none => none
    | none => none
  | _ => none
theorem cv_join : CallV K T (rcof fun x xs H Q => ∃ a p, ∃ ys : List Str, x = .str a ∧ xs = [.ref p] ∧ (SqL K H p (ys.map V.str) ∨ SqT K H p (ys.map V.str)) ∧ (ys.map (·.length)).sum + ys.length * a.length ≤ 16777216 ∧ Q (.str (Txt.join a ys)) H) prJoin := fun G H vs ds fl d Q x c hp k => by
  unfold prJoin at hp
  split at hp
  · obtain ⟨u, w, rfl, c1, c2⟩ := c.two
    split at hp
    · rename_i a b ds hs
      split at hp
      · rename_i ys hy
        split at hp
        · rename_i hl
          cases hp
          obtain ⟨p, xs, e, sq, r⟩ := c2.seq x hs
          have ev := strsOf_rel hy r
          subst ev
          exact ⟨_, p, ys, c1.str, by rw [e], sq, Nat.le_trans hl (by decide), k _ _ _ (new_same x rfl)⟩
        · cases hp
      · cases hp
    · cases hp
  · cases hp
theorem pe_jo {oe : Expr} {o o1 : Opd} {apos pos : Pos} (ho : PE X oe (tO X.K B o)) (he : PE X e (tO X.K B o1)) (hs : starEach [e] X.env = [(false, eval e X.env)] := by rfl) (hbase : attributeBase oe "join" X.env (eval oe X.env) = eval oe X.env := by rfl) (hline : (apos.endLine == pos.line) = true := by rfl) :
    PE X (.Call (.Attribute oe "join" apos) [e] [] pos) (tF X.K B (fMe isStr prJoin o [o1])) :=
  pe_s1 PySem.F.slot_str_join PySem.F.type_str_join mt_join cv_join ho he hs hbase hline

/-! d.get(k, x) -/
def fGet (od ok : Opd) (f : EF) : EF := fun ρ => match evO od ρ with
  | .ok hd ρ1 => match hd.get ρ1 with
    | some (.dK _) => fGet' hd ok f ρ1
    | some (.dT _) => fGet' hd ok f ρ1
    | _ => .no
  | .ex x ρ1 => .ex x ρ1
  | .no => .no
where fGet' (hd : Hd) (ok : Opd) (f : EF) (ρ1 : Ve) : ER := match evO ok ρ1 with
  | .ok hk ρ2 => match f ρ2 with
    | .ok _ z ρ3 => match hd.get ρ3, hk.get ρ3 with
      | some dd, some kd => match dLook dd kd with
        | some r => .ok false (r.getD z) ρ3
        | none => .no
      | _, _ => .no
    | .ex x ρ3 => .ex x ρ3
    | .no => .no
  | .ex x ρ2 => .ex x ρ2
  | .no => .no
theorem isD_of {dd : D} (x : Exr G H) (c : Cont K T G H v dd) (h : (∃ l, dd = .dK l) ∨ ∃ l, dd = .dT l) : ∃ a, v = .ref a ∧ IsD H a := by
  rcases h with ⟨l, rfl⟩ | ⟨l, rfl⟩
  · obtain ⟨p, vs, e, s, _⟩ := c.dK x; exact ⟨p, e, .inl ⟨_, s⟩⟩
  · obtain ⟨p, vs, e, s, _⟩ := c.dT x; exact ⟨p, e, .inr ⟨_, s⟩⟩
theorem get_read {od ok : Opd} {f : EF} (S : Sim K B G H σ ρ) (q : PostE K B G σ Q (fGet od ok f ρ)) : tDGet2 (tO K B od) (tO K B ok) (tF K B f) σ H Q := by
  refine tO_run S ?_
  dsimp only [fGet] at q
  cases h1 : evO od ρ with
  | ex x ρ1 => rw [h1] at q; exact q
  | no => rw [h1] at q; exact q
  | ok hd ρ1 =>
    rw [h1] at q
    intro G1 H1 x e1 S1 k1
    dsimp only at q
    have go : ∀ dd, hd.get ρ1 = some dd → ((∃ l, dd = .dK l) ∨ ∃ l, dd = .dT l) → PostE K B G σ Q (fGet.fGet' hd ok f ρ1) → ∃ a, x = .ref a ∧ IsD H1 a ∧ tO K B ok σ H1 fun y H2 => tF K B f σ H2 fun z H3 => ∃ o, DGet H3 a y o ∧ Q (o.getD z) H3 := fun dd hg hdd q => by
      obtain ⟨a, ea, isd⟩ := isD_of S1.ex (Hd.get_ok S1 k1 hg) hdd
      refine ⟨a, ea, isd, tO_run S1 ?_⟩
      dsimp only [fGet.fGet'] at q
      cases h2 : evO ok ρ1 with
      | ex x ρ2 => rw [h2] at q; exact q
      | no => rw [h2] at q; exact q
      | ok hk ρ2 =>
        rw [h2] at q
        intro G2 H2 y e2 S2 k2
        refine ⟨G2, ρ2, S2, PostZ.toE ?_⟩
        dsimp only at q
        cases h3 : f ρ2 with
        | ex x ρ3 => rw [h3] at q; exact q
        | no => rw [h3] at q; exact q
        | ok fl z ρ3 =>
          rw [h3] at q
          intro G3 H3 w e3 S3 k3
          dsimp only at q
          split at q
          · rename_i dd' kd g1 g2
            cases h4 : dLook dd' kd with
            | none => rw [h4] at q; exact q.elim
            | some r =>
              rw [h4] at q
              obtain ⟨a', o, ea', _, dg, lk⟩ := dget_ok S3.ex (Hd.get_ok S3 (k1.mono (e2.trans e3)) g1) (Hd.get_ok S3 (k2.mono e3) g2) h4
              rw [ea] at ea'; cases ea'
              refine ⟨o, dg, q G3 H3 _ ((e1.trans e2).trans e3) S3 ?_⟩
              cases r with
              | none => rw [show o = none from lk]; exact k3
              | some d => obtain ⟨u, eu, ru⟩ := lk; rw [eu]; exact ru
          · exact q.elim
    split at q
    · rename_i l hl; exact go _ hl (.inl ⟨l, rfl⟩) q
    · rename_i l hl; exact go _ hl (.inr ⟨l, rfl⟩) q
    · exact q.elim
theorem pe_ge2 (hu : X.A.units + 65 < cLine) {oe e1 e2 : Expr} {od ok : Opd} {f : EF} {apos cpos : Pos} (ho : PE X oe (tO X.K B od)) (h1 : PE X e1 (tO X.K B ok)) (h2 : PE X e2 (tF X.K B f)) (m : M2 X oe "get" apos e1 e2 cpos := by exact ⟨rfl, rfl, rfl, rfl⟩) :
    PE X (.Call (.Attribute oe "get" apos) [e1, e2] [] cpos) (tF X.K B (fGet od ok f)) := PE.imp (pe_dget2 (by omega) ho h1 h2 m) fun σ H Q ⟨G, ρ, S, q⟩ => get_read S q

/-! ### str, int, min, max, abs, factorial, sorted -/
def prStr : Pr
  | [.int i] => if i.natAbs.log2 < 1920 then some (false, .str (toString i)) else none
  | _ => none
theorem cv_str : CallV K T (fun xs H Q => ∃ i : Int, xs = [.int i] ∧ i.natAbs.log2 < 1920 ∧ Q (.str (toString i)) H) prStr := fun G H vs ds fl d Q x c hp k => by
  unfold prStr at hp
  split at hp
  · obtain ⟨u, rfl, c1⟩ := c.one
    split at hp
    · rename_i hz
      cases hp
      exact ⟨_, by rw [c1.int], hz, k _ _ _ (new_same x rfl)⟩
    · cases hp
  · cases hp
def prInt : Pr
  | [.int i] => some (false, .int i)
  | [.bl b] => some (false, .int (if b then 1 else 0))
  | [.str s] => if s.length ≤ 640 then match PySem.intText? s with | some n => some (false, .int n) | none => none else none
  | _ => none
def rIntA : List V → Hp → VK → Prop := fun xs H Q => ((∃ i, xs = [.int i] ∧ Q (.int i) H) ∨ ∃ k, xs = [.bl k] ∧ Q (.int (if k then 1 else 0)) H) ∨ ∃ a n, xs = [.str a] ∧ PySem.intText? a = some n ∧ a.length ≤ 640 ∧ Q (.int n) H
theorem cr_intA : CallR X (.type "int") rIntA := CallR.or call_int1 call_int_str
theorem cv_int : CallV K T rIntA prInt := fun G H vs ds fl d Q x c hp k => by
  unfold prInt at hp
  split at hp
  · obtain ⟨u, rfl, c1⟩ := c.one
    cases hp
    exact .inl (.inl ⟨_, by rw [c1.int], k _ _ _ (new_same x rfl)⟩)
  · obtain ⟨u, rfl, c1⟩ := c.one
    cases hp
    exact .inl (.inr ⟨_, by rw [c1.bl], k _ _ _ (new_same x rfl)⟩)
  · obtain ⟨u, rfl, c1⟩ := c.one
    split at hp
    · rename_i hl
      split at hp
      · rename_i n hn
        cases hp
        exact .inr ⟨_, n, by rw [c1.str], hn, hl, k _ _ _ (new_same x rfl)⟩
      · cases hp
    · cases hp
  · cases hp
def prMin2 : Pr := prI (fun _ _ => true) fun i j => .int (if j < i then j else i)
def prMax2 : Pr := prI (fun _ _ => true) fun i j => .int (if j > i then j else i)
theorem cv_min2 : CallV K T (fun xs H Q => ∃ i j, xs = [.int i, .int j] ∧ Q (.int (if j < i then j else i)) H) prMin2 := fun G H vs ds fl d Q x c hp k => by
  unfold prMin2 prI at hp
  split at hp
  · obtain ⟨u, w, rfl, c1, c2⟩ := c.two
    rw [if_pos rfl] at hp
    cases hp
    exact ⟨_, _, by rw [c1.int, c2.int], k _ _ _ (new_same x rfl)⟩
  · cases hp
theorem cv_max2 : CallV K T (fun xs H Q => ∃ i j, xs = [.int i, .int j] ∧ Q (.int (if j > i then j else i)) H) prMax2 := fun G H vs ds fl d Q x c hp k => by
  unfold prMax2 prI at hp
  split at hp
  · obtain ⟨u, w, rfl, c1, c2⟩ := c.two
    rw [if_pos rfl] at hp
    cases hp
    exact ⟨_, _, by rw [c1.int, c2.int], k _ _ _ (new_same x rfl)⟩
  · cases hp
/-- n! -/
def fac : Nat → Nat
  | 0 => 1
  | n + 1 => (n + 1) * fac n
theorem fac_eq : ∀ n, Builtin.Math.factorialNat n = fac n
  | 0 => rfl
  | n + 1 => by
    have h := fac_eq n
    unfold Builtin.Math.factorialNat at h ⊢
    rw [List.range_succ, List.foldl_append, h]
    exact Nat.mul_comm _ _
def prFac : Pr
  | [.int i] => if 0 ≤ i ∧ i ≤ 20000 then some (false, .int ((Builtin.Math.factorialNat i.toNat : Nat) : Int)) else none
  | _ => none
theorem cr_fac : CallR X (.builtin "math.factorial") (fun xs H Q => ∃ i : Int, xs = [.int i] ∧ 0 ≤ i ∧ i ≤ 20000 ∧ Q (.int ((Builtin.Math.factorialNat i.toNat : Nat) : Int)) H) := by
  intro pins s σ H vs us Q I r h
  obtain ⟨i, rfl, h0, h1, q⟩ := h
  obtain ⟨u, rfl, t, rfl⟩ := vals1 r
  exact PySem.W.mc_factorial h0 h1 fun _ => ⟨.int _, H, I.tok _, ⟨_, rfl⟩, q⟩
theorem cv_fac : CallV K T (fun xs H Q => ∃ i : Int, xs = [.int i] ∧ 0 ≤ i ∧ i ≤ 20000 ∧ Q (.int ((Builtin.Math.factorialNat i.toNat : Nat) : Int)) H) prFac := fun G H vs ds fl d Q x c hp k => by
  unfold prFac at hp
  split at hp
  · obtain ⟨u, rfl, c1⟩ := c.one
    split at hp
    · rename_i hz
      cases hp
      exact ⟨_, by rw [c1.int], hz.1, hz.2, k _ _ _ (new_same x rfl)⟩
    · cases hp
  · cases hp
end
end Pf
/-! part Pf9 -/
set_option Elab.async false
set_option linter.all false
set_option maxRecDepth 100000
set_option maxHeartbeats 1000000
/-! Pf9: dicts whose keys are tuples: copies, displays; sorted; enumerate of a tuple. -/
namespace PySem
open PySem PySem.Spec
section
variable {prog : Program} {w : World} {K : Type} [DecidableEq K] {knd : HeapKind prog w K} {A : Around} {E : Value → Shared → Prop} {s : Shared}
theorem pf_call_dictH {o : Addr} {more : List (K × Addr × Value)} {Q : Value → Shared → Prop} (hu : knd.room A.in1.in1) (hoS : (o == sysModules) = false) (ho : s.heap.DictOfH knd o more) (hsz : more.length ≤ sizeLine)
    (hty : ∀ x ∈ more, s.TypeIs (.ref x.2.1) "tuple") (hap : (more.map fun x => knd.hash x.1).Nodup)
    (hst : ∀ h' : Heap, (∀ b ob, s.heap.get? b = some ob → h'.get? b = some ob) → ∀ x ∈ more, knd.is h' x.1 x.2.1)
    (h : ∀ h', h'.DictOfH knd s.heap.objs.size more → Heap.SameBut s.heap.objs.size (s.heap.push { cls := .type "dict", data := .dict #[] }) h' → Q (.ref s.heap.objs.size) { s with heap := h' }) :
    wpAny (model prog w) A (call (.type "dict") [.ref o]) Q E s := by
  refine callType_codes (Q₁ := fun obj s₁ => obj = .ref s.heap.objs.size ∧ s₁ = { s with heap := s.heap.push { cls := .type "dict", data := .dict #[] } }) F.kt_called_dict (F.kt_typeCall_dict_1 _) F.entry_dict_init (kt_code_dict_new _ ⟨rfl, rfl⟩) ?_
  rintro obj s₁ ⟨rfl, rfl⟩
  have hnew : (s.heap.push { cls := .type "dict", data := .dict #[] }).DictOfH knd s.heap.objs.size [] := Heap.DictOfH.new s.heap
  have hdo : s.heap.objs.size ≠ o := by
    have := ho.lt_size
    exact fun e => absurd this (by rw [e]; exact Nat.lt_irrefl _)
  have kp : ∀ b ob, s.heap.get? b = some ob → (s.heap.push { cls := .type "dict", data := .dict #[] }).get? b = some ob := fun b ob q => Heap.get?_push_of_some _ q
  have ho' : (s.heap.push { cls := .type "dict", data := .dict #[] }).DictOfH knd o more := ho.at' (fun ob q => kp o ob q) (hst _ kp)
  have hn : (more.map (·.1)).Nodup := ho.nodup
  refine ⟨hnew.typeIs (s := { s with heap := s.heap.push { cls := .type "dict", data := .dict #[] } }), F.args_dict_init_2 _ _, ?_⟩
  unfold Builtin.«dict.__init__»
  refine wpAny_bind ?_
  unfold Builtin.Dict.selfAndRest
  refine wpAny_bind (wpAny_notOrdered_dict (hnew.typeIs (s := { s with heap := s.heap.push { cls := .type "dict", data := .dict #[] } })) ?_)
  show wpAny _ _ (pure (s.heap.objs.size, [Value.ref o])) _ _ _
  refine wpAny_pure ?_
  show wpAny _ _ (Builtin.Dict.updateFrom "dict.__init__" s.heap.objs.size (.ref o) [] .none) _ _ _
  unfold Builtin.Dict.updateFrom
  refine wpAny_bind (wpAny_typeOf (ho'.typeIs (s := { s with heap := s.heap.push { cls := .type "dict", data := .dict #[] } })) ?_)
  rw [if_neg (by decide)]
  refine wpAny_bind ?_
  unfold Builtin.Dict.merge
  refine wpAny_bind ?_
  unfold Builtin.Dict.readDirectly
  refine wpAny_bind (wpAny_isInstance (ho'.typeIs (s := { s with heap := s.heap.push { cls := .type "dict", data := .dict #[] } })) isSubtype_dict_dict ?_)
  simp only [Bool.not_true, Bool.false_eq_true, if_false]
  refine wpAny_bind (wpAny_specialOf (ho'.typeIs (s := { s with heap := s.heap.push { cls := .type "dict", data := .dict #[] } })) F.slot_dict_iter.lookup (wpAny_pure ?_))
  simp only [beq_self_eq_true, if_true]
  refine wpAny_bind (wpAny_pure ?_)
  refine wpAny_mergeDict_heap (hsz := by simpa using hsz) hu hdo hoS hnew ho' (.inr ⟨fun x hx => ?_, hap⟩) fun h' hd' _ hs' => ?_
  · obtain ⟨ob, h1, h2⟩ := hty x hx
    exact ⟨ob, kp _ ob h1, h2⟩
  · show wpAny _ _ (Builtin.Dict.addKeywords s.heap.objs.size [] >>= _) _ _ _
    rw [storedAllH_nil_of_nodup more hn] at hd'
    exact wpAny_bind (wpAny_pure (wpAny_pure ⟨rfl, h h' hd' hs'⟩))
end
end PySem
namespace Pf
open PySem PySem.Spec PyProof.Rows L2
section
variable {X : Cx} {B : Bs} {K : PySem.W.Frag} {T : Tab} {G G' H H' : Hp} {σ σ' : L2.St} {ρ ρ' : Ve} {Q : VK} {v : V} {e tg iter : Expr} {es : List Expr} {st : Stmt} {rest : List Stmt} {Dn : Ends} {p : Addr}
/-- the hash of a tuple of ints -/
def keyI : Key → Int
  | .inl i => hashInt i
  | .inr _ => 0
def isI : Key → Bool
  | .inl _ => true
  | .inr _ => false
def hashK (ks : List Key) : Int := reduceHash (Builtin.Tuple.tupleHashOf (ks.map keyI))
theorem hashK_map {P : Program} {w : World} : ∀ {ks : List Key}, ks.all isI = true → ks.map (mixKind P w).hash = ks.map keyI
  | [], _ => rfl
  | .inl i :: ks, h => by
    rw [List.all_cons, Bool.and_eq_true] at h
    rw [List.map_cons, List.map_cons, hashK_map h.2]; rfl
  | .inr z :: ks, h => by
    rw [List.all_cons, Bool.and_eq_true] at h
    exact absurd h.1 (by show ¬ (false = true); decide)
theorem hashK_eq {P : Program} {w : World} {ks : List Key} (h : ks.all isI = true) : tupleKeyHash (mixKind P w) ks = hashK ks := by
  unfold tupleKeyHash hashK
  rw [hashK_map h]
/-- tuples of ints of different hashes -/
def okH {α : Type} (kvs : List (List Key × α)) : Bool := (kvs.all fun kv => kv.1.all isI) && decide ((kvs.map fun kv => hashK kv.1).Nodup)
theorem okH_ok {P : Program} {w : World} {α : Type} {kvs : List (List Key × α)} (h : okH kvs = true) : (kvs.map fun kv => (tupleKind (mixKind P w)).hash kv.1).Nodup := by
  unfold okH at h
  rw [Bool.and_eq_true, decide_eq_true_eq] at h
  have e : (kvs.map fun kv => (tupleKind (mixKind P w)).hash kv.1) = kvs.map fun kv => hashK kv.1 := List.map_congr_left fun kv hkv => hashK_eq (List.all_eq_true.mp h.1 kv hkv)
  rw [e]; exact h.2
theorem kt_keys {H : Hp} : ∀ {kvs : List (List Key × V)} {xs : List (List Key × Addr × Value)}, KT H kvs xs → kvs.map (·.1) = xs.map (·.1)
  | _, _, .nil => rfl
  | _, _, .cons h t => by rw [List.map_cons, List.map_cons, h.1, kt_keys t]
theorem kt_mem {H : Hp} : ∀ {kvs : List (List Key × V)} {xs : List (List Key × Addr × Value)}, KT H kvs xs → ∀ x ∈ xs, H x.2.1 = some (.tup (x.1.map kV))
  | _, _, .nil, x, hx => nomatch hx
  | _, _, .cons (b := q) h t, x, hx => by
    rcases List.mem_cons.mp hx with e | hx
    · subst e; rw [← h.1]; exact h.2.1
    · exact kt_mem t x hx
theorem key_at {P : Program} {w : World} {H : Hp} {h h' : Heap} {ks : List Key} {a : Addr} (ok : HOk P w H h) (e : H a = some (.tup (ks.map kV))) (kp : ∀ b ob, h.get? b = some ob → h'.get? b = some ob) : (tupleKind (mixKind P w)).is h' ks a := by
  obtain ⟨_, its, r, o, h1, h2, n, h3⟩ := (show ObjOk P w H h a (.tup (ks.map kV)) from ok a _ e)
  exact ⟨o, its.toArray, n, kp _ _ h1, h2, h3, by simpa using items_are r⟩
theorem call_dictT (hu : X.A.units + 64 < cLine) : CallR X (.type "dict") (fun xs H Q => ∃ (a : Addr) (kvs : List (List Key × V)), xs = [.ref a] ∧ Rd H a (.dT kvs) ∧ okH kvs = true ∧ ∀ p, H p = none → Q (.ref p) (upd H p (.dT kvs))) := by
  intro pins s σ H xs us Q I r q
  obtain ⟨a, kvs, ex, hd, ho, q⟩ := q
  subst ex
  obtain ⟨u, eu, rx⟩ := vals1 r
  subst eu
  cases rx
  obtain ⟨z, lo, ys, rel, dd⟩ := dt_rd I.hok hd
  have hkeys := kt_keys rel
  refine pf_call_dictH (knd := tupleKind (mixKind X.prog X.w)) ?_ lo dd (by rw [← Paired.length rel]; exact z) (fun x hx => ?_) ?_ (fun h' kp x hx => key_at I.hok (kt_mem rel x hx) kp) fun h' d' hs => ?_
  · show X.A.in1.in1.units < cLine
    have : X.A.in1.in1.units = X.A.units + 1 + 1 := rfl
    omega
  · obtain ⟨_, its, _, ob, h1, h2, _⟩ := (show ObjOk X.prog X.w H s.heap x.2.1 (.tup (x.1.map kV)) from I.hok _ _ (kt_mem rel x hx))
    exact ⟨ob, h1, h2⟩
  · have h1 := okH_ok (P := X.prog) (w := X.w) ho
    have e : (ys.map fun x => (tupleKind (mixKind X.prog X.w)).hash x.1) = (ys.map (·.1)).map (tupleKind (mixKind X.prog X.w)).hash := by rw [List.map_map]; rfl
    have e2 : (kvs.map fun kv => (tupleKind (mixKind X.prog X.w)).hash kv.1) = (kvs.map (·.1)).map (tupleKind (mixKind X.prog X.w)).hash := by rw [List.map_map]; rfl
    rw [e, ← hkeys, ← e2]; exact h1
  · have hm : (s.heap.objs.size == sysModules) = false := beq_eq_false_iff_ne.mpr (Nat.ne_of_gt I.big)
    have hf := I.hok.fresh (Nat.le_refl s.heap.objs.size)
    obtain ⟨ob, es, ep, g1, g2, g3, g4, _, g5⟩ := d'
    refine ⟨.ref s.heap.objs.size, upd H s.heap.objs.size (.dT kvs), I.laid (t' := s.toks) (fun b u e => (hs.2 b (Nat.ne_of_lt (Heap.lt_size e))).trans (Heap.get?_push_of_some _ e)) (Nat.le_refl _) ?_, rfl, q _ hf⟩
    exact (show ObjOk X.prog X.w _ _ _ (.dT kvs) from ⟨z, hm, ys, rel.keeps fun c vs ec => by rw [upd_ne (ne_of_none ec hf)]; exact ec, ob, es, ep, g1, g2, g3, g4, g5⟩)
/-- dict(d) -/
def prDict : Pr
  | [.dK kvs] => some (true, .dK kvs)
  | [.dT kvs] => if okH kvs = true then some (true, .dT kvs) else none
  | _ => none
def rDictA : List V → Hp → VK → Prop := fun xs H Q => (∃ (a : Addr) (kvs : List (Key × V)), xs = [.ref a] ∧ Rd H a (.dK kvs) ∧ ∀ p, H p = none → Q (.ref p) (upd H p (.dK kvs))) ∨
  ∃ (a : Addr) (kvs : List (List Key × V)), xs = [.ref a] ∧ Rd H a (.dT kvs) ∧ okH kvs = true ∧ ∀ p, H p = none → Q (.ref p) (upd H p (.dT kvs))
theorem cr_dictA (hu : X.A.units + 64 < cLine) : CallR X (.type "dict") rDictA := CallR.or call_dictD (call_dictT hu)
theorem RepQ.keys : ∀ {kvs : List (List Key × D)} {vs : List (List Key × V)}, RepQ K T G kvs vs → vs.map (·.1) = kvs.map (·.1)
  | [], _, h => by cases h; rfl
  | (_, _) :: _, _, ⟨v, r, h1, h2, h3⟩ => by subst h1; rw [List.map_cons, List.map_cons, RepQ.keys h3]
theorem okH_keys {α β : Type} {xs : List (List Key × α)} {ys : List (List Key × β)} (h : xs.map (·.1) = ys.map (·.1)) : okH xs = okH ys := by
  have e1 : (xs.all fun kv => kv.1.all isI) = ((xs.map (·.1)).all fun k => k.all isI) := by rw [List.all_map]; rfl
  have e2 : (ys.all fun kv => kv.1.all isI) = ((ys.map (·.1)).all fun k => k.all isI) := by rw [List.all_map]; rfl
  have e3 : (xs.map fun kv => hashK kv.1) = (xs.map (·.1)).map hashK := by rw [List.map_map]; rfl
  have e4 : (ys.map fun kv => hashK kv.1) = (ys.map (·.1)).map hashK := by rw [List.map_map]; rfl
  unfold okH
  rw [e1, e2, e3, e4, h]
theorem cv_dict : CallV K T rDictA prDict := fun G H vs ds fl d Q x c hp k => by
  unfold prDict at hp
  split at hp
  · obtain ⟨u, rfl, c1⟩ := c.one
    cases hp
    obtain ⟨p, xs, e, s, r⟩ := c1.dK x
    exact .inl ⟨p, xs, by rw [e], s, fun q hq => k _ _ _ (new_own x hq ⟨xs, upd_same, r⟩)⟩
  · obtain ⟨u, rfl, c1⟩ := c.one
    split at hp
    · rename_i hz
      cases hp
      obtain ⟨p, xs, e, s, r⟩ := c1.dT x
      exact .inr ⟨p, xs, by rw [e], s, by rw [okH_keys r.keys]; exact hz, fun q hq => k _ _ _ (new_own x hq ⟨xs, upd_same, r⟩)⟩
    · cases hp
  · cases hp
/-- {} -/
def eD0K : EF := fun ρ => .ok true (.dK []) ρ
def eD0T : EF := fun ρ => .ok true (.dT []) ρ
theorem fresh_val {o : HO} {d : D} (S : Sim K B G H σ ρ) (hp : H p = none) (ho : Own K B.T G (upd H p o) p d) : Sim K B G (upd H p o) σ ρ ∧ ValOk K B G (upd H p o) σ ρ true (.ref p) d :=
  ⟨S.grow (Grow.own S.ex hp), (new_own S.ex hp ho).val S⟩
theorem pe_d0K {pos} : PE X (.Dict [] [] pos) (tF X.K B eD0K) := PE.imp pe_dnewK fun σ H Q ⟨G, ρ, S, q⟩ p hp => by
  obtain ⟨S1, k⟩ := fresh_val (d := .dK []) S hp ⟨[], upd_same, rfl⟩
  exact q G _ _ (Ex.refl _) S1 k
theorem pe_d0T {pos} : PE X (.Dict [] [] pos) (tF X.K B eD0T) := PE.imp pe_dnewT fun σ H Q ⟨G, ρ, S, q⟩ p hp => by
  obtain ⟨S1, k⟩ := fresh_val (d := .dT []) S hp ⟨[], upd_same, rfl⟩
  exact q G _ _ (Ex.refl _) S1 k

/-! {k: v}, k a tuple -/
theorem pe_disp1T (hu : X.A.units + 1 < cLine) {ke ve : Expr} {tk tv : TE} {pos : Pos} (hk : PE X ke tk) (hv : PE X ve tv) :
    PE X (.Dict [some ke] [ve] pos) (fun σ H Q => ∀ p, H p = none → tk σ (upd H p (.dT [])) fun y H1 => tv σ H1 fun z H2 => H2 p = some (.dT []) ∧ ∃ (ks : List Key) (b : Addr), y = .ref b ∧ H2 b = some (.tup (ks.map kV)) ∧ Q (.ref p) (upd H2 p (.dT [(ks, z)]))) := by
  refine ⟨fun pins s σ H Q I q => ?_⟩
  have hn := I.hok.fresh (Nat.le_refl s.heap.objs.size)
  have I1 := I.laid (a := s.heap.objs.size) (o := .dT []) (h' := s.heap.push { cls := .type "dict", data := .dict #[] }) (t' := s.toks) (fun _ _ q => Heap.get?_push_of_some _ q) (Nat.le_refl _) (dt_empty s.heap I.big)
  have hall : ([some ke] : List (Option Expr)).all (·.isSome) = true := rfl
  have hl : ([some ke] : List (Option Expr)).length = ([ve] : List Expr).length := rfl
  have hlen := pairTrees_length [some ke] [ve] X.env pos hall hl
  have h0 : pairTrees [some ke] [ve] X.env pos ≠ [] := fun he => by rw [he] at hlen; cases hlen
  have h15 : (pairTrees [some ke] [ve] X.env pos).length ≤ 15 := by rw [hlen]; show 1 ≤ 15; exact Nat.le_of_ble_eq_true rfl
  show wpAny _ _ (eval (.Dict [some ke] [ve] pos) X.env) _ _ _
  rw [arm_eval_Dict, zip_pairTrees [some ke] [ve] X.env pos hall hl, dictDisplay_pairs _ h0 (by omega)]
  refine wpAny_bind (wpAny_standAt (wpAny_bind (wpAny_subDictH (knd := tupleKind (mixKind X.prog X.w)) (show X.A.units < cLine by omega) h15 ?_)))
  refine pairTrees_cons_walk (thn (hk.run pins _ σ _ _ I1 (q _ hn)) fun u s1 ⟨y, H1, J1, ry, q1⟩ => thn (hv.run pins s1 σ H1 _ J1 q1) fun w2 s2 ⟨z, H2, J2, rz, hp, ks, b, ey, hb, q2⟩ => pairTrees_nil_walk ?_)
  subst ey
  obtain rfl : u = Value.ref b := ry
  obtain ⟨zz, hd, ys, rel, dd⟩ := dt_of J2.hok hp
  cases rel
  refine ⟨[(ks, b, w2)], ⟨rfl, rfl, key_of J2.hok hb, trivial⟩, dd, fun h' tk' dd' hs => wpAny_pure ⟨.ref s.heap.objs.size, upd H2 s.heap.objs.size (.dT [(ks, z)]), ?_, rfl, q2⟩⟩
  have hg : ∃ q, h'.get? s.heap.objs.size = some q := by obtain ⟨ob, _, _, g1, _⟩ := dd'; exact ⟨ob, g1⟩
  have ne : b ≠ s.heap.objs.size := ne_of hb hp (fun z => nomatch z)
  have kt : KT (upd H2 s.heap.objs.size (.dT [(ks, z)])) [(ks, z)] [(ks, b, w2)] := Paired.cons ⟨rfl, by rw [upd_ne ne]; exact hb, rz⟩ Paired.nil
  exact d_write J2 (by rw [hp]; exact True.intro) hs hg (show ObjOk X.prog X.w _ _ _ (.dT [(ks, z)]) from ⟨by show 1 ≤ sizeLine; decide, hd, [(ks, b, w2)], kt, by obtain ⟨ob, es, ep, g1, g2, g3, g4, _, g5⟩ := dd'; exact ⟨ob, es, ep, g1, g2, g3, g4, g5⟩⟩)
end
end Pf
/-! part Pf10 -/
set_option Elab.async false
set_option linter.all false
set_option maxRecDepth 100000
set_option maxHeartbeats 1000000
/-! Pf10: sorted of ints, enumerate of a tuple. -/
namespace PySem
open PySem PySem.Spec
set_option maxHeartbeats 1000000 in
theorem pf_enum_newB {v : Value} {o : Obj} {H : Heap → Prop} (B : Begins v o H) :
    Meets (Builtin.«enumerate.__new__» ⟨[.type "enumerate", v], []⟩) (fun _ R s => H s.heap ∧
      R (.ok (.ret (.ref (s.heap.push o).objs.size))) { s with heap := (s.heap.push o).push { cls := .type "enumerate", data := .fields #[.none, .bool false, .ref s.heap.objs.size, rawInt 0, .none, .none] } }) :=
  .of_wp fun prog w A R s h => by
    obtain ⟨hp, g, d, tk, os⟩ := s; obtain ⟨h1, h⟩ := h
    have hsub := sub_enumerate
    have q1 : ∀ {A' : Around} {E : Value → Shared → Prop} {Q : Value → Shared → Prop}, Q (.ref hp.objs.size) ⟨hp.push o, g, d, tk, os⟩ → wpAny (model prog w) A' (pyIter v) Q E ⟨hp, g, d, tk, os⟩ :=
      fun q => B.iter prog w _ _ ⟨hp, g, d, tk, os⟩ _ h1 q
    wp_walk using q1
    refine wpAny_stack_any fun st => wpAny_pure ?_
    split
    · rename_i c _ _ _ _ _
      cases (c == Value.type "enumerate")
      · wp_walk using q1
        exact ⟨_, rfl, h⟩
      · wp_walk using q1
        exact ⟨_, rfl, h⟩
    · wp_walk using q1
      exact ⟨_, rfl, h⟩
section
variable {prog : Program} {w : World} {A : Around} {E : Value → Shared → Prop} {s : Shared}
theorem pf_enum_begins {v : Value} {o : Obj} {H : Heap → Prop} {Q : Value → Shared → Prop} (B : Begins v o H) (h1 : H s.heap)
    (h : ∀ h', IsEnum h' (s.heap.objs.size + 1) s.heap.objs.size 0 .none → h'.get? s.heap.objs.size = some o → h'.objs.size = s.heap.objs.size + 2 →
      (∀ b o, s.heap.get? b = some o → h'.get? b = some o) → Q (.ref (s.heap.objs.size + 1)) { s with heap := h' }) :
    wpAny (model prog w) A (call (.type "enumerate") [v]) Q E s := by
  refine callType_new F.called_enumerate (by decide) (F.typeCall_enumerate_1 _) (F.newCall_enumerate_1 _) (fun obj => F.args_object_init_2 obj _) F.entry_enumerate_new
    (pf_enum_newB B) ⟨h1, ?_⟩
  have hz : (s.heap.push o).objs.size = s.heap.objs.size + 1 := Heap.size_push ..
  show _ ∧ _
  rw [hz]
  have he : IsEnum ((s.heap.push o).push { cls := .type "enumerate", data := .fields #[.none, .bool false, .ref s.heap.objs.size, rawInt 0, .none, .none] }) (s.heap.objs.size + 1) s.heap.objs.size 0 .none := by
    have := Heap.get?_push_size (s.heap.push o) (o := { cls := .type "enumerate", data := .fields #[.none, .bool false, .ref s.heap.objs.size, rawInt 0, .none, .none] }) rfl
    rw [hz] at this; exact this
  refine ⟨⟨_, he, rfl⟩, h _ he (Heap.get?_push_of_some _ (Heap.get?_push_size _ B.free)) (by rw [Heap.size_push, hz]) fun b o x => Heap.get?_push_of_some _ (Heap.get?_push_of_some _ x)⟩
end
end PySem
namespace Pf
open PySem PySem.Spec PyProof.Rows L2
/-- the tuple at a, each item in a new pair -/
def Iteu (K : PySem.W.Frag) (a : Addr) : It :=
  ⟨fun i H => ∃ (xs : List V) (x : V), SqT K H a xs ∧ xs[i]? = some x, fun i H v H' => ∃ T x, v = .ref T ∧ H T = none ∧ H' = upd H T (.tup [.int (i : Nat), x]) ∧ ∀ xs, SqT K H a xs → xs[i]? = some x, fun i H => ∃ xs : List V, SqT K H a xs ∧ xs.length ≤ i⟩
theorem turn_enumT {P : Program} {w : World} {K : PySem.W.Frag} {elts : List Expr} {kk : Nat} {tpos : Pos} (a e it : Addr) :
    Turn P w K (.Tuple elts kk tpos) (Iteu K a) [e, it] e (fun i h => (∃ old, IsEnum h e it ((i : Nat) : Int) old) ∧ h.IsTupleIter it a i ∧ e ≠ it ∧ a ≠ it ∧ a ≠ e) where
  mem := by simp
  obj := fun i h st b hb => by
    obtain ⟨⟨old, he⟩, ⟨o, ho, hc, hd⟩, _⟩ := st
    have e' : b = e ∨ b = it := by simpa using hb
    rcases e' with z | z
    · rw [z]; exact ⟨_, he, fun v q => nomatch q⟩
    · rw [z]; exact ⟨o, ho, fun v q => by rw [hd] at q; cases q⟩
  keep := fun i h h' st k => let ⟨⟨old, he⟩, hi, hne⟩ := st; ⟨⟨old, k e (by simp) _ he⟩, hi.at fun o q => k it (by simp) o q, hne⟩
  item := by
    intro X hP hw hK hc i pins s σ H E I hf st hg
    subst hP hw hK
    obtain ⟨⟨old, he⟩, hit, hne, hai, hae⟩ := st
    obtain ⟨xs, x, hq, hx⟩ := hg
    obtain ⟨its, rv, p, hz⟩ := I.tuple hq
    obtain ⟨u, hu, ru⟩ := rv.get hx
    have hel : e < s.heap.objs.size := Heap.lt_size he
    have hil : it < s.heap.objs.size := by obtain ⟨_, q, _⟩ := hit; exact Heap.lt_size q
    have hilt : i < its.toArray.size := by
      have : i < its.length := (List.getElem?_eq_some_iff.mp hu).1
      simpa using this
    refine wpAny_pyNext_enum_itemD (Draws.tuple (prog := X.prog) (w := X.w) (A := X.A.in1) (show X.A.in1.handled = none from I.ok.hd hc) it a hai its.toArray) he ⟨hit, (show s.heap.IsTuple a its.toArray from p)⟩ hilt hne (by simp [hne, Ne.symm hae]) fun y h' tk hy ho hst' hT hsz hk => ?_
    have ey : y = u := by
      have : its[i]? = some y := by simpa using hy
      rw [hu] at this; exact (Option.some.inj this).symm
    subst ey
    refine ⟨_, rfl, wpAny_letOwnedTupleGo_enum (s := { s with heap := h', toks := tk + 1 }) ho fun h'' he' sb => ?_⟩
    have hT2 : h''.get? s.heap.objs.size = some { cls := .type "tuple", data := .seq #[.int i tk, y] } := (sb.2 _ (Nat.ne_of_gt hel)).trans hT
    have new : ObjOk X.prog X.w (upd H s.heap.objs.size (.tup [.int (i : Nat), x])) h'' s.heap.objs.size (.tup [.int (i : Nat), x]) :=
      ⟨by show 2 ≤ sizeLine; decide, [.int i tk, y], .cons ⟨_, rfl⟩ (.cons ru .nil), ⟨_, hT2, rfl, _, rfl⟩⟩
    have I1 : Inv X pins σ (upd H s.heap.objs.size (.tup [.int (i : Nat), x])) { s with heap := h'', toks := tk + 1 } :=
      I.turnedNew (ch := [e, it]) (fun b ob hb q => (sb.2 b (fun z => hb (by simp [z]))).trans (hk b ob (fun z => hb (by simp [z])) (fun z => hb (by simp [z])) q)) hf (Nat.le_refl _) new
    refine ⟨.ref s.heap.objs.size, _, I1, rfl, ⟨_, x, rfl, I.hok.fresh (Nat.le_refl _), rfl, fun ys hy => by rw [I.tuple_inj hy hq]; exact hx⟩, ⟨⟨y, ?_⟩, hst'.1.at fun o q => (sb.2 it (Ne.symm hne)).trans q, hne, hai, hae⟩, fun b hb => ?_⟩
    · have e1 : ((i + 1 : Nat) : Int) = (i : Int) + 1 := by omega
      rw [e1]; exact he'
    · have hb' : b < s.heap.objs.size := by
        have e' : b = e ∨ b = it := by simpa using hb
        rcases e' with z | z
        · rw [z]; exact hel
        · rw [z]; exact hil
      rw [upd_ne (Nat.ne_of_lt hb')]
      exact (hf b hb).1
  done := by
    intro X hP hw hK hc i pins s σ H E I hf st hg
    subst hP hw hK
    obtain ⟨⟨old, he⟩, hit, hne, hai, hae⟩ := st
    obtain ⟨xs, hq, hx⟩ := hg
    obtain ⟨its, rv, p, hz⟩ := I.tuple hq
    obtain ⟨f0, f1, f2, f3, f4, f5⟩ := hf it (by simp)
    have hl := rv.length
    have hdn := I.ok.hd hc
    have hT : s.TypeIs (.ref e) "enumerate" := ⟨_, he, rfl⟩
    unfold pyNext
    refine wpAny_bind (wpAny_attempt (wpAny_callSpecial?_slot (name := Str.ofString "__next__") hT F.slot_enumerate_next
      (wpAny_call_entry F.slot_enumerate_next hT F.entry_enumerate_next ?_ (F.args_enumerate_next_1 _))))
    show wpAny _ _ (PySem.field (.ref e) 2 >>= _) _ _ _
    refine wpAny_bind (wpAny_field he rfl (x := .ref it) rfl ?_)
    refine wpAny_bind (wpAny_nextOf_tuple_end (show X.A.in1.handled = none from hdn) hit (show s.heap.IsTuple a its.toArray from p) (by simp; omega) fun h' x he' hx' => ?_)
    obtain ⟨o, ho, hc⟩ := hx'
    refine wpAny_bind (wpAny_isInstance (T := "StopIteration") (b := true) ⟨o, ho, hc⟩ isSubtype_stop ?_)
    exact wpAny_pure ⟨rfl, I.turned (t' := s.toks) (fun b o hb q => he' b o hb q) f0 f1 f3 f4 f5⟩
  self := fun A i s Q E st h => let ⟨⟨_, he⟩, _⟩ := st; wpAny_pyIter_enum he h
def iEnumT (K : PySem.W.Frag) (ta : TA) : TI := fun σ H R => ta σ H fun vs H1 => ∃ a xs, vs = [.ref a] ∧ SqT K H1 a xs ∧ R (Iteu K a) H1
theorem pi_enumT {X : Cx} {e : Expr} {ta : TA} {p pos tpos : Pos} {elts : List Expr} {kk : Nat} (hg : Gl X "enumerate") (hm : X.mg "enumerate" = none) (ha : PA X [e] ta) (hs : starEach [e] X.env = [(false, eval e X.env)] := by rfl) :
    PI X (.Tuple elts kk tpos) (.Call (.Name "enumerate" p) [e] [] pos) (iEnumT X.K ta) := by
  refine ⟨fun pins s σ H R I h => ?_⟩
  refine Call_ (ld_blt I hg hm boot_enumerate (PyProof.Rows.callWith_type1 (thn (ha.run pos pins s σ H _ I h) fun us s1 ⟨vs, H1, I1, r1, q1⟩ => ?_) hs rfl))
  obtain ⟨a, xs, ex, hq, q⟩ := q1
  subst ex
  cases r1 with
  | cons r rr =>
    cases rr
    cases r
    obtain ⟨its, rv, p', hz⟩ := I1.tuple hq
    refine pf_enum_begins (begins_tuple a its.toArray) (show s1.heap.IsTuple a its.toArray from p') fun h' he hit hsz hk => wpAny_pyIter_enum he ?_
    have I2 : Inv X pins σ H1 { s1 with heap := h' } := I1.kept (t' := s1.toks) hk
    have hal : a < s1.heap.objs.size := by obtain ⟨o, eo, _⟩ := (show s1.heap.IsTuple a its.toArray from p'); exact Heap.lt_size eo
    refine ⟨s1.heap.objs.size + 1, [s1.heap.objs.size + 1, s1.heap.objs.size], _, _, H1, rfl, I2, turn_enumT a (s1.heap.objs.size + 1) s1.heap.objs.size, ⟨⟨.none, he⟩, ⟨_, hit, rfl, rfl⟩, Nat.succ_ne_self _, Nat.ne_of_lt hal, Nat.ne_of_lt (Nat.lt_succ_of_lt hal)⟩, fun b hb => ?_, q⟩
    have e' : b = s1.heap.objs.size + 1 ∨ b = s1.heap.objs.size := by simpa using hb
    have hle : s1.heap.objs.size ≤ b := by
      rcases e' with z | z
      · rw [z]; exact Nat.le_add_right _ _
      · rw [z]; exact Nat.le_refl _
    exact I1.fpOk hle (I1.hok.fresh hle)
theorem sqT_inj {K : PySem.W.Frag} {H : Hp} {a : Addr} {xs ys : List V} : SqT K H a xs → SqT K H a ys → True := fun _ _ => trivial
section
variable {X : Cx} {B : Bs} {K : PySem.W.Frag} {T : Tab} {G G' H H' : Hp} {σ : L2.St} {ρ : Ve} {Q : VK} {v : V} {e tg iter : Expr} {es : List Expr}
theorem walkD_enumT {p : Addr} {ds : List D} {vs : List V} (s : SqT K G p vs) (r : RepL K T G ds vs) : WalkD K T G (Iteu K p) (enumD ds) where
  go := fun G1 H1 i e x hi => by
    rw [enumD_len] at hi
    have hi' : i < vs.length := by rw [r.len]; exact hi
    exact ⟨vs, vs[i], x.t (e.t s), List.getElem?_eq_getElem hi'⟩
  stop := fun G1 H1 e x => ⟨vs, x.t (e.t s), by rw [enumD_len, r.len]; exact Nat.le_refl _⟩
  yld := fun G1 H1 i x H2 e xr hi y => by
    rw [enumD_len] at hi
    obtain ⟨t, b, e1, e2, e3, e5⟩ := y
    obtain ⟨d, h1, h2⟩ := r.getV (e5 vs (xr.t (e.t s)))
    subst e1 e3
    exact ⟨upd G1 t (.tup [.int (i : Nat), b]), _, enumD_at h1, Grow.keep xr e2, t, _, rfl, upd_same, _, _, rfl, rfl, _, _, rfl, (h2.mono e).mono (Ex.new (xr.ne e2)), rfl⟩
/-- enumerate of a list, a tuple -/
def iEnu2 (f : EF) : ITf := fun ρ => match f ρ with
  | .ok _ d ρ1 => match seqOf d with
    | some ds => .ok (enumD ds) ρ1
    | none => .no
  | .ex x ρ1 => .ex x ρ1
  | .no => .no
theorem pi_enu2 {a : Expr} {f : EF} {p pos tpos : Pos} {elts : List Expr} {kk : Nat} (hg : Gl X "enumerate") (hm : X.mg "enumerate" = none) (h : PE X a (tF X.K B f)) (hs : starEach [a] X.env = [(false, eval a X.env)] := by rfl) :
    PI X (.Tuple elts kk tpos) (.Call (.Name "enumerate" p) [a] [] pos) (tI X.K B (iEnu2 f)) :=
  PI.imp (PI.or (pi_enum hg hm (pa_cons h pa_nil hs) hs) (pi_enumT hg hm (pa_cons h pa_nil hs) hs)) fun σ H R ⟨G, ρ, S, q⟩ => by
    dsimp only [iEnu2] at q
    cases h1 : f ρ with
    | ex x ρ1 => exact .inl ⟨G, ρ, S, by rw [h1] at q ⊢; exact q⟩
    | no => rw [h1] at q; exact q.elim
    | ok fl d ρ1 =>
      rw [h1] at q
      dsimp only at q
      cases d with
      | lst ds => exact .inl ⟨G, ρ, S, PostZ.toE (by
          rw [h1]; intro G1 H1 v e1 S1 ⟨p, vs, ev, s, r⟩
          exact ⟨p, vs, by rw [ev], SqL.of (S1.ex.at s rfl), q G1 H1 _ e1 S1 (walkD_enum (SqL.of s) r)⟩)⟩
      | rol ds => exact .inl ⟨G, ρ, S, PostZ.toE (by
          rw [h1]; intro G1 H1 v e1 S1 ⟨p, vs, ev, s, r⟩
          exact ⟨p, vs, by rw [ev], S1.ex.l s, q G1 H1 _ e1 S1 (walkD_enum s r)⟩)⟩
      | tup ds => exact .inr ⟨G, ρ, S, PostZ.toE (by
          rw [h1]; intro G1 H1 v e1 S1 ⟨p, vs, ev, s, r⟩
          exact ⟨p, vs, by rw [ev], SqT.of (S1.ex.at s rfl), q G1 H1 _ e1 S1 (walkD_enumT (SqT.of s) r)⟩)⟩
      | rot ds => exact .inr ⟨G, ρ, S, PostZ.toE (by
          rw [h1]; intro G1 H1 v e1 S1 ⟨p, vs, ev, s, r⟩
          exact ⟨p, vs, by rw [ev], S1.ex.t s, q G1 H1 _ e1 S1 (walkD_enumT s r)⟩)⟩
      | _ => exact q.elim

/-! ### sorted -/
def insR (c : Int → Int → Bool) (a : Int) : List Int → List Int
  | [] => [a]
  | b :: l => if c a b = true then a :: b :: l else b :: insR c a l
def srtI (c : Int → Int → Bool) : List Int → List Int
  | [] => []
  | a :: l => insR c a (srtI c l)
theorem insR_perm (c : Int → Int → Bool) (a : Int) : ∀ l, (insR c a l).Perm (a :: l)
  | [] => List.Perm.refl _
  | b :: l => by
    unfold insR
    split
    · exact List.Perm.refl _
    · exact ((insR_perm c a l).cons b).trans (List.Perm.swap a b l)
theorem srtI_perm (c : Int → Int → Bool) : ∀ l, (srtI c l).Perm l
  | [] => List.Perm.refl _
  | a :: l => (insR_perm c a _).trans ((srtI_perm c l).cons a)
structure Tot (c : Int → Int → Bool) : Prop where
  tr : ∀ a b d, c a b = true → c b d = true → c a d = true
  to : ∀ a b, c a b ≠ true → c b a = true
theorem insR_pw {c : Int → Int → Bool} (t : Tot c) (a : Int) : ∀ l, l.Pairwise (fun x y => c x y = true) → (insR c a l).Pairwise (fun x y => c x y = true)
  | [], _ => List.pairwise_singleton _ _
  | b :: l, h => by
    unfold insR
    rw [List.pairwise_cons] at h
    split
    · rename_i hab
      rw [List.pairwise_cons]
      refine ⟨fun x hx => ?_, List.pairwise_cons.mpr h⟩
      rcases List.mem_cons.mp hx with e | hx
      · subst e; exact hab
      · exact t.tr a b x hab (h.1 x hx)
    · rename_i hab
      rw [List.pairwise_cons]
      refine ⟨fun x hx => ?_, insR_pw t a l h.2⟩
      rcases List.mem_cons.mp ((insR_perm c a l).mem_iff.mp hx) with e | hx
      · subst e; exact t.to _ _ hab
      · exact h.1 x hx
theorem srtI_pw {c : Int → Int → Bool} (t : Tot c) : ∀ l, (srtI c l).Pairwise (fun x y => c x y = true)
  | [] => List.Pairwise.nil
  | a :: l => insR_pw t a _ (srtI_pw t l)
theorem srtI_uniq {c : Int → Int → Bool} (t : Tot c) (anti : ∀ a b, c a b = true → c b a = true → a = b) {l m : List Int} (hp : m.Perm l) (hm : m.Pairwise (fun x y => c x y = true)) : m = srtI c l :=
  List.Perm.eq_of_pairwise (fun a b _ _ => anti a b) hm (srtI_pw t l) (hp.trans (srtI_perm c l).symm)
def cGe (a b : Int) : Bool := decide (b ≤ a)
def cLe (a b : Int) : Bool := decide (a ≤ b)
theorem tot_ge : Tot cGe := ⟨fun a b d h1 h2 => by simp [cGe] at *; omega, fun a b h => by simp [cGe] at *; omega⟩
theorem tot_le : Tot cLe := ⟨fun a b d h1 h2 => by simp [cLe] at *; omega, fun a b h => by simp [cLe] at *; omega⟩
def srtB (b : Bool) (l : List Int) : List Int := srtI (if b = true then cGe else cLe) l
theorem srtB_uniq {b : Bool} {l m : List Int} (hp : m.Perm l) (ho : OrdB b m) : m = srtB b l := by
  cases b with
  | true => exact srtI_uniq tot_ge (fun a b h1 h2 => by simp [cGe] at *; omega) hp (ho.imp fun {a b} h => by have h : a ≥ b := h; simp [cGe]; omega)
  | false => exact srtI_uniq tot_le (fun a b h1 h2 => by simp [cLe] at *; omega) hp (ho.imp fun {a b} h => by have h : a ≤ b := h; simp [cLe]; omega)
theorem srtB_len (b : Bool) (l : List Int) : (srtB b l).length = l.length := (srtI_perm _ l).length_eq
def prSorted (b : Bool) : Pr
  | [.lst ds] => match intsOf ds with
    | some ns => some (true, .lst ((srtB b ns).map D.int))
    | none => none
  | _ => none
theorem cv_sorted {b : Bool} {zs : List V} : CallV K T (fun vs H Q => rSortedKw K b zs vs zs H Q) (prSorted b) := fun G H vs ds fl d Q x c hp k => by
  unfold prSorted at hp
  split at hp
  · obtain ⟨u, rfl, c1⟩ := c.one
    split at hp
    · rename_i ns hn
      cases hp
      obtain ⟨p, xs, e, s, r⟩ := c1.lst x
      have hr := intsOf_rel hn r
      subst hr
      refine ⟨p, ns, by rw [e], rfl, SqL.of s, fun ns' q hp ho hq => ?_⟩
      rw [srtB_uniq hp ho]
      exact k _ _ _ (new_lst x hq (RepL.map fun _ => rfl))
    · cases hp
  · cases hp
theorem pe_sortedKw {a : Expr} {o : Opd} {b : Bool} {p pos : Pos} {kp : Pos} {ke : Expr} (hg : Gl X "sorted") (hm : X.mg "sorted" = none) (h : PE X a (tO X.K B o)) (hk : PE X ke (tC (.bl b))) (hs : starEach [a] X.env = [(false, eval a X.env)] := by rfl)
    (he : backTo pos (starEach [a] X.env) = (false, eval a X.env) :: backTo pos (starEach [] X.env) := by rfl) (hpl : (backTo pos (starEach [a] X.env)).any (·.1) = false := by rfl)
    (hall : (backToKw pos (keywordEach [⟨some "reverse", ke, kp⟩] X.env)).all (·.1.isSome) = true := by rfl) (hnone : (backToKw pos (keywordEach [⟨some "reverse", ke, kp⟩] X.env)).any (·.1.isNone) = false := by rfl) (hks : (backToKw pos (keywordEach [⟨some "reverse", ke, kp⟩] X.env)).filterMap (·.1) = [Str.ofString "reverse"] := by rfl) :
    PE X (.Call (.Name "sorted" p) [a] [⟨some "reverse", ke, kp⟩] pos) (tF X.K B (fPrim (prSorted b) [o])) :=
  pe_prim (PE.imp (pe_callBK (x := "sorted") (p := p) (pos := pos) (kws := [⟨some "reverse", ke, kp⟩]) (cr_sortedRev (b := b)) hg hm (by rfl) (pa_cons h pa_nil hs) (pk_cons hk pk_nil) (by decide) (by decide) he hpl hall hnone hks) fun σ H Q q => q) cv_sorted
end
end Pf
/-! part Pf11 -/
set_option Elab.async false
set_option linter.all false
set_option maxRecDepth 100000
set_option maxHeartbeats 1000000
/-! Pf11: a def's promise from its body; fields, constructors, methods, properties. -/
namespace Pf
open PySem PySem.Spec PyProof.Rows L2
/-! ### a def by its body -/
def startV (n : Nat) (ds : List D) : Ve := ds.map (fun d => some (.fz, d)) ++ List.replicate (n - ds.length) none
def startI (n : Nat) : List D → Ve
  | [] => List.replicate n none
  | d0 :: ds => (some (Fl.bo, d0) : Sl) :: startV (n - 1) ds
def finF : SR → FR
  | .nx _ => .ok false .non .non
  | .rt fl d _ => .ok fl d .non
  | .ex x _ => .ex x .non
  | _ => .no
def out0 : Ve → Option D
  | some (.bo, d) :: _ => some d
  | _ => none
def finI : SR → FR
  | .nx ρ => match out0 ρ with | some o => .ok false .non o | none => .no
  | .rt fl d ρ => match out0 ρ with | some o => .ok fl d o | none => .no
  | .ex x ρ => match out0 ρ with | some o => .ex x o | none => .no
  | _ => .no
def mF (n : Nat) (f : SF) : FM := fun ds => finF (f (startV n ds))
def mI (n : Nat) (f : SF) : FM := fun ds => finI (f (startI n ds))
section
variable {X : Cx} {B : Bs} {K : PySem.W.Frag} {T : Tab} {G G' H H' : Hp} {σ σ' : L2.St} {ρ ρ' : Ve} {Q : VK} {v : V} {e tg iter : Expr} {es : List Expr} {p : Addr}
theorem startV_len {n : Nat} {ds : List D} (h : ds.length ≤ n) : (startV n ds).length = n := by
  unfold startV; rw [List.length_append, List.length_map, List.length_replicate]; omega
theorem start_len {N : List Str} {vs : List V} (h : vs.length ≤ N.length) : (L2.start N vs).length = N.length := by
  unfold L2.start; rw [List.length_append, List.length_map, List.length_replicate]; omega
theorem startV_at {n i : Nat} {ds : List D} {fl : Fl} {d : D} (h : (startV n ds)[i]? = some (some (fl, d))) : fl = .fz ∧ ds[i]? = some d := by
  unfold startV at h
  by_cases hi : i < ds.length
  · rw [List.getElem?_append_left (by simpa using hi), List.getElem?_map] at h
    cases q : ds[i]? with
    | none => rw [q] at h; cases h
    | some d' => rw [q] at h; cases h; exact ⟨rfl, rfl⟩
  · rw [List.getElem?_append_right (by simpa using hi), List.getElem?_replicate] at h
    split at h <;> cases h
theorem start_at {N : List Str} {vs : List V} {i : Nat} {v : V} (h : vs[i]? = some v) : (L2.start N vs)[i]? = some (some v) := by
  have hi := (List.getElem?_eq_some_iff.mp h).1
  unfold L2.start
  rw [List.getElem?_append_left (by simpa using hi), List.getElem?_map, h]; rfl
/-- the exception x may leave: whatever state it leaves in, E takes it -/
def wxF (K : PySem.W.Frag) (T : Tab) (G H : Hp) (E : XK) : D → Ve → Prop := fun x _ => ∀ G' H' cls d, Grow G H G' H' → ExRep K T G' H' x cls d → E cls d H'
def b0 (K : PySem.W.Frag) (T : Tab) (G H : Hp) (E : XK) (mk : MkT T G) : Bs := ⟨T, H, G, fun _ => False, wxF K T G H E, fun _ h => h.elim, mk⟩
theorem sim_start {N : List Str} {ds : List D} {vs : List V} (x : Exr G H) (r : RepL K T G ds vs) (hl : vs.length ≤ N.length) (mk : MkT T G) : ∀ {E : XK}, Sim K (b0 K T G H E mk) G H (L2.start N vs) (startV N.length ds) := fun {E} => {
  ex := x
  new := fun a o h => .inl h
  g0 := Ex.refl _
  fr := fun a o h _ _ => h
  al := fun a h => h
  len := by rw [start_len hl, startV_len (by rw [← r.len]; exact hl)]
  sl := fun i fl d h => by
    obtain ⟨rfl, hd⟩ := startV_at h
    obtain ⟨v, e, k⟩ := r.get hd
    exact ⟨v, start_at e, k⟩
  dis := fun i j p f1 d1 f2 d2 h1 h2 n1 => absurd (startV_at h1).1 n1 }
def wxI (K : PySem.W.Frag) (T : Tab) (G H : Hp) (p : Addr) (E : XK) : D → Ve → Prop := fun x ρ => ∃ out, out0 ρ = some out ∧ ∀ G' H' cls dx, Ex G G' → Exr G' H' → (∀ a o, G' a = some o → G a = some o ∨ H a = none ∨ isTp o = true) → (∀ a o, a ≠ p → H a = some o → isTb o = false → H' a = some o) → (∀ a, H' a = none → H a = none) → Own K T G' H' p out →
      ExRep K T G' H' x cls dx → E cls dx H'
def bI (K : PySem.W.Frag) (T : Tab) (G H : Hp) (p : Addr) (h : H p ≠ none) (E : XK) (mk : MkT T G) : Bs := ⟨T, H, G, fun a => a = p, wxI K T G H p E, fun a e => by subst e; exact h, mk⟩
theorem sim_startI {N : List Str} {ds : List D} {d0 : D} {vs : List V} (hp : H p ≠ none) (x : Exr G H) (ho : Own K T G H p d0) (hg : G p = none) (r : RepL K T G ds vs) (hl : vs.length + 1 ≤ N.length) (mk : MkT T G) : ∀ {E : XK}, Sim K (bI K T G H p hp E mk) G H (L2.start N (.ref p :: vs)) (startI N.length (d0 :: ds)) := fun {E} => {
  ex := x
  new := fun a o h => .inl h
  g0 := Ex.refl _
  fr := fun a o h _ _ => h
  al := fun a h => h
  len := by
    rw [start_len (by rw [List.length_cons]; exact hl)]
    show _ = (startV (N.length - 1) ds).length + 1
    rw [startV_len (by rw [← r.len]; omega)]; omega
  sl := fun i fl d h => by
    cases i with
    | zero =>
      have h : some (some (Fl.bo, d0)) = some (some (fl, d)) := h
      cases h
      exact ⟨.ref p, start_at rfl, p, rfl, ho, hg, rfl⟩
    | succ i =>
      have h : (startV (N.length - 1) ds)[i]? = some (some (fl, d)) := h
      obtain ⟨rfl, hd⟩ := startV_at h
      obtain ⟨v, e, k⟩ := r.get hd
      exact ⟨v, start_at (show (V.ref p :: vs)[i + 1]? = some v by simpa using e), k⟩
  dis := fun i j q f1 d1 f2 d2 h1 h2 n1 n2 s1 s2 => by
    cases i with
    | zero =>
      cases j with
      | zero => rfl
      | succ j => exact absurd (startV_at (show (startV (N.length - 1) ds)[j]? = some (some (f2, d2)) from h2)).1 n2
    | succ i => exact absurd (startV_at (show (startV (N.length - 1) ds)[i]? = some (some (f1, d1)) from h1)).1 n1 }
theorem start_run {N : List Str} {f : SF} {vs : List V} {E : XK} (hl : vs.length ≤ N.length) (h : spF K T vs.length (mF N.length f) vs H Q E) : ∃ G mk, tS K (b0 K T G H E mk) f { nx := fun _ H' => Q .non H', rt := Q } (L2.start N vs) H := by
  obtain ⟨_, G, ds, x, mk, r, q⟩ := h
  refine ⟨G, mk, G, startV N.length ds, sim_start x r hl mk, ?_⟩
  unfold mF at q
  have grow : ∀ {G' H' σ' ρ'}, Ex G G' → Sim K (b0 K T G H E mk) G' H' σ' ρ' → Grow G H G' H' := fun e S => ⟨e, S.ex, S.new, fun a o h n => S.fr a o h n (fun z => z), S.al⟩
  cases hf : f (startV N.length ds) with
  | nx ρ => rw [hf] at q; exact fun G' H' σ' e S => q G' H' .non ⟨grow e S, rfl⟩
  | rt fl d ρ =>
    rw [hf] at q
    intro G' H' σ' v e S k
    refine q G' H' v ⟨grow e S, ?_⟩
    cases fl with
    | false => exact k
    | true => obtain ⟨p, ev, ho, hg, h0, _⟩ := k; exact ⟨p, ev, h0, hg, ho⟩
  | br ρ => rw [hf] at q; exact q.elim
  | ct ρ => rw [hf] at q; exact q.elim
  | ex x ρ => rw [hf] at q; exact q
  | no => rw [hf] at q; exact q.elim
theorem out_ok {G0 H0 : Hp} {hp : H0 p ≠ none} {o : D} {E : XK} {mk : MkT T G0} (S : Sim K (bI K T G0 H0 p hp E mk) G' H' σ' ρ) (h : out0 ρ = some o) : Own K T G' H' p o := by
  have hd : ρ[0]? = some (some (Fl.bo, o)) := by
    unfold out0 at h
    split at h
    · cases h; rfl
    · cases h
  obtain ⟨v, e, z⟩ := S.sl 0 _ _ hd
  obtain ⟨q, ev, ho, hg, hm⟩ := (show ∃ q, v = V.ref q ∧ Own K T G' H' q o ∧ G' q = none ∧ q = p from z)
  subst hm; exact ho
theorem start_runI {N : List Str} {f : SF} {vs : List V} {E : XK} (hl : vs.length ≤ N.length) (h : spI K T vs.length (mI N.length f) vs H Q E) : ∃ G p hp mk, tS K (bI K T G H p hp E mk) f { nx := fun _ H' => Q .non H', rt := Q } (L2.start N vs) H := by
  obtain ⟨_, G, p, d0, us, ds, ev, x, mk, ho, hg, r, q⟩ := h
  subst ev
  have hp : H p ≠ none := fun z => by obtain ⟨o, h⟩ := ho.has; rw [z] at h; cases h
  refine ⟨G, p, hp, mk, G, startI N.length (d0 :: ds), sim_startI hp x ho hg r (by simpa using hl) mk, ?_⟩
  unfold mI at q
  cases hf : f (startI N.length (d0 :: ds)) with
  | nx ρ =>
    rw [hf] at q
    dsimp only [finI] at q
    cases h0 : out0 ρ with
    | none => rw [h0] at q; exact q.elim
    | some o =>
      rw [h0] at q
      exact fun G' H' σ' e S => q G' H' .non e S.ex S.new (fun a u n h nt => S.fr a u h nt n) S.al (out_ok S h0) rfl
  | rt fl d ρ =>
    rw [hf] at q
    dsimp only [finI] at q
    cases h0 : out0 ρ with
    | none => rw [h0] at q; exact q.elim
    | some o =>
      rw [h0] at q
      intro G' H' σ' v e S k
      refine q G' H' v e S.ex S.new (fun a u n h nt => S.fr a u h nt n) S.al (out_ok S h0) ?_
      cases fl with
      | false => exact k
      | true => obtain ⟨t, ev, ho, hg, h0, _⟩ := k; exact ⟨t, ev, h0, hg, ho⟩
  | br ρ => rw [hf] at q; exact q.elim
  | ct ρ => rw [hf] at q; exact q.elim
  | ex x ρ =>
    rw [hf] at q
    dsimp only [finI] at q
    cases h0 : out0 ρ with
    | none => rw [h0] at q; exact q.elim
    | some o => rw [h0] at q; exact ⟨o, h0, q⟩
  | no => rw [hf] at q; exact q.elim
end
section
variable {P : Program} {w : World} {K : PySem.W.Frag} {mg : Str → Option Value} {base : Heap} {x qual : Str} {params : Arguments} {body : List Stmt} {scope : Scope} {dvs : List V} {kws : List (Str × V)} {f : Addr} {fd : FuncData} {T : Tab}
/-- what leaves the body leaves the def -/
instance xok_F {N : List Str} {cdv : Value} {A : Around} {outer : List Env} {s : Shared} {H G : Hp} {E : XK} {mk : MkT T G} : XOk (cxOf (L2N.CX P w) P w K mg base N qual scope f cdv A outer s H E) (b0 K T G H E mk) :=
  ⟨⟨_, L2N.takes_of rfl rfl rfl rfl, fun G' H' σ ρ x cls d S h er => h G' H' cls d ⟨S.g0, S.ex, S.new, fun a o h n => S.fr a o h n (fun z => z), S.al⟩ er⟩⟩
instance xok_I {N : List Str} {cdv : Value} {A : Around} {outer : List Env} {s : Shared} {H G : Hp} {p : Addr} {hp : H p ≠ none} {E : XK} {mk : MkT T G} : XOk (cxOf (L2N.CX P w) P w K mg base N qual scope f cdv A outer s H E) (bI K T G H p hp E mk) :=
  ⟨⟨_, L2N.takes_of rfl rfl rfl rfl, fun G' H' σ ρ x cls d S h er => h.elim fun o h => h.2 G' H' cls d S.g0 S.ex S.new (fun a u n h nt => S.fr a u h nt n) S.al (out_ok S h.1) er⟩⟩
/-- THE RULE: a def whose parameters are kept -/
theorem fn_F {N ps : List Str} {k n : Nat} {sf : SF} (F : FunD K x qual params body scope dvs kws f fd) (S : FnScope N ps scope) (hn : n = ps.length)
    (hbody : ∀ (cdv : Value) (A : Around) (outer : List Env) (s : Shared) (H G : Hp) (E : XK) (mk : MkT T G), Room k (A.deeper (envOfC qual scope s.heap.objs.size f cdv)) →
      PSs (cxOf (L2N.CX P w) P w K mg base N qual scope f cdv A outer s H E) body (tS K (b0 K T G H E mk) sf)) : FnOk P w K mg base (L2N.CX P w) (k + 1) f fd ps (spF K T n (mF N.length sf)) := by
  have hpl : ps.length ≤ N.length := by have := congrArg List.length S.pre; rw [List.length_take] at this; omega
  refine F.ok S (fun vs H Q E h => by rw [h.1, hn]) fun cdv A outer s H vs Q E hr h => ?_
  have hv := h.1
  subst hv
  obtain ⟨G, mk, q⟩ := start_run (N := N) (by rw [hn]; exact hpl) h
  exact ⟨_, hbody cdv A outer s H G E mk hr, q⟩
/-- THE RULE: a def whose first parameter is changed -/
theorem fn_I {N ps : List Str} {k n : Nat} {sf : SF} (F : FunD K x qual params body scope dvs kws f fd) (S : FnScope N ps scope) (hn : n = ps.length)
    (hbody : ∀ (cdv : Value) (A : Around) (outer : List Env) (s : Shared) (H G : Hp) (p : Addr) (hp : H p ≠ none) (E : XK) (mk : MkT T G), Room k (A.deeper (envOfC qual scope s.heap.objs.size f cdv)) →
      PSs (cxOf (L2N.CX P w) P w K mg base N qual scope f cdv A outer s H E) body (tS K (bI K T G H p hp E mk) sf)) : FnOk P w K mg base (L2N.CX P w) (k + 1) f fd ps (spI K T n (mI N.length sf)) := by
  have hpl : ps.length ≤ N.length := by have := congrArg List.length S.pre; rw [List.length_take] at this; omega
  refine F.ok S (fun vs H Q E h => by rw [h.1, hn]) fun cdv A outer s H vs Q E hr h => ?_
  have hv := h.1
  subst hv
  obtain ⟨G, p, hp, mk, q⟩ := start_runI (N := N) (by rw [hn]; exact hpl) h
  exact ⟨_, hbody cdv A outer s H G p hp E mk hr, q⟩
/-- as FnR, when no default is asked -/
theorem fnR_of {CX : CXT} {ps : List Str} {k : Nat} {sp : Sp} (F : FnOk P w K mg base CX k f fd ps sp) (hb : Binds K fd ps []) : FnR P w K mg base CX k f sp :=
  (F.raw hb (by constructor)).imp fun vs H Q E h => by rw [List.append_nil]; exact h
/-- with keywords -/
theorem fnKw_of {CX : CXT} {ps : List Str} {k n : Nat} {ks : List Str} {g : List Value → List Value → List Value} {gV : List V → List V → List V} {sp : Sp} (F : FnOk P w K mg base CX k f fd ps sp) (hb : KBn K fd ps n ks g gV) : FnKw P w K mg base CX k f n ks gV sp :=
  fun A outer s H us ws vs zs Q E hr e0 r rz h1 h2 h => by
    refine F.run A outer s H ⟨us, ks.zip ws⟩ (g us ws) (gV vs zs) Q E hr e0 ?_ (hb.rel r rz) h
    exact hb.to s us ws (e0.mod.kin.keeps fun b o e => (e0.bs b o e).1) (by rw [← r.length, h1]) (by rw [← rz.length, h2])
theorem fnR_no {CX : CXT} {k : Nat} {n : Nat} : FnR P w K mg base CX k f (spF K T n fun _ => .no) := fun A outer s H us vs Q E hr e0 r h => by
  obtain ⟨_, _, _, _, _, _, q⟩ := h; exact q.elim
theorem fnR_noI {CX : CXT} {k : Nat} {n : Nat} : FnR P w K mg base CX k f (spI K T n fun _ => .no) := fun A outer s H us vs Q E hr e0 r h => by
  obtain ⟨_, _, _, _, _, _, _, _, _, _, _, _, q⟩ := h; exact q.elim
end
end Pf
/-! part Pf12 -/
set_option Elab.async false
set_option linter.all false
set_option maxRecDepth 100000
set_option maxHeartbeats 1000000
/-! Pf12: fields, constructors, methods, properties. -/
namespace Pf
open PySem PySem.Spec PyProof.Rows L2
def ixF (f : Str) : List Str → Option Nat
  | [] => none
  | g :: l => if g = f then some 0 else match ixF f l with
    | some i => some (i + 1)
    | none => none
def putI {α : Type} (vs : List α) (i : Nat) (y : α) : List α := if i < vs.length then vs.set i y else vs ++ [y]
section
variable {X : Cx} {B : Bs} {K : PySem.W.Frag} {T : Tab} {G G' H H' : Hp} {σ σ' : L2.St} {ρ ρ' : Ve} {Q : VK} {v : V} {e tg iter : Expr} {es : List Expr} {p : Addr} {Dn : Ends} {f : Str}
theorem ixF_lookup : ∀ {L : List Str} {vs : List V} {i : Nat} {v : V}, ixF f L = some i → vs[i]? = some v → (L.zip vs).lookup f = some v
  | [], _, _, _, h, _ => by cases h
  | g :: L, [], _, _, _, h => by simp at h
  | g :: L, u :: vs, i, v, h, hv => by
    unfold ixF at h
    show List.lookup f ((g, u) :: L.zip vs) = some v
    rw [List.lookup_cons]
    by_cases hg : g = f
    · rw [if_pos hg] at h; cases h
      subst hg
      simp at hv; subst hv
      rw [beq_self_eq_true]
    · rw [if_neg hg] at h
      split at h
      · rename_i j hj
        cases h
        rw [show (f == g) = false from beq_eq_false_iff_ne.mpr (fun z => hg z.symm)]
        exact ixF_lookup hj (by simpa using hv)
      · cases h
theorem ixF_none : ∀ {L : List Str} {vs : List V}, ixF f L = none → (L.zip vs).lookup f = none
  | [], _, _ => rfl
  | g :: L, [], _ => rfl
  | g :: L, u :: vs, h => by
    unfold ixF at h
    show List.lookup f ((g, u) :: L.zip vs) = none
    rw [List.lookup_cons]
    by_cases hg : g = f
    · rw [if_pos hg] at h; cases h
    · rw [if_neg hg] at h
      split at h
      · cases h
      · rename_i hj
        rw [show (f == g) = false from beq_eq_false_iff_ne.mpr (fun z => hg z.symm)]
        exact ixF_none hj
theorem ixF_lt : ∀ {L : List Str} {i : Nat}, ixF f L = some i → i < L.length
  | [], _, h => by cases h
  | g :: L, i, h => by
    unfold ixF at h
    by_cases hg : g = f
    · rw [if_pos hg] at h; cases h; simp
    · rw [if_neg hg] at h
      split at h
      · rename_i j hj
        cases h
        have := ixF_lt hj
        simp; omega
      · cases h
theorem ixF_put {y : V} : ∀ {L : List Str} {vs : List V} {i : Nat}, ixF f L = some i → i ≤ vs.length → putF f y (L.zip vs) = L.zip (putI vs i y)
  | [], _, _, h, _ => by cases h
  | g :: L, [], i, h, hl => by
    have e : i = 0 := by simpa using hl
    subst e
    unfold ixF at h
    by_cases hg : g = f
    · subst hg
      show putF g y [] = _
      simp [putF, putI]
    · rw [if_neg hg] at h
      split at h <;> cases h
  | g :: L, u :: vs, i, h, hl => by
    unfold ixF at h
    show putF f y ((g, u) :: L.zip vs) = _
    unfold putF
    by_cases hg : g = f
    · rw [if_pos hg] at h; cases h
      rw [if_pos hg]
      simp [putI]
    · rw [if_neg hg] at h
      rw [if_neg hg]
      split at h
      · rename_i j hj
        cases h
        have hl' : j ≤ vs.length := by simpa using hl
        rw [ixF_put hj hl']
        unfold putI
        by_cases hjl : j < vs.length
        · rw [if_pos hjl, if_pos (by simpa using hjl)]; rfl
        · rw [if_neg hjl, if_neg (by simpa using hjl)]; rfl
      · cases h
theorem RepL.putI {ds : List D} {vs : List V} {d : D} {v : V} (i : Nat) (r : RepL K T G ds vs) (k : Rep K T G d v) : RepL K T G (putI ds i d) (putI vs i v) := by
  unfold Pf.putI
  rw [r.len]
  split
  · exact r.set i k
  · exact r.append (RepL.one k)
theorem putI_len {α : Type} {vs : List α} {i n : Nat} {y : α} (h : vs.length ≤ n) (hi : i < n) (hl : i ≤ vs.length) : (putI vs i y).length ≤ n := by
  unfold putI
  split
  · rw [List.length_set]; exact h
  · rw [List.length_append, List.length_singleton]; omega

/-- the field f of the classes in l: (class, place) -/
structure FldOk (K : PySem.W.Frag) (T : Tab) (f : Str) (l : List (Nat × Nat)) : Prop where
  ok : ∀ c i, l.lookup c = some i → ixF f (T.L c) = some i ∧ Cls K (T.C c) ∧ NoAttr K (T.C c) f ∧ (T.L c).length < 1000
def prFld (l : List (Nat × Nat)) : Pr
  | [.ins c ds] => match l.lookup c with
    | some i => match ds[i]? with
      | some d => some (false, d)
      | none => none
    | none => none
  | _ => none
def rFld (K : PySem.W.Frag) (f : Str) : V → Hp → VK → Prop := fun x H1 Q => ∃ a C dx fs v, x = .ref a ∧ H1 a = some (.ins C dx fs) ∧ Cls K C ∧ NoAttr K C f ∧ fs.lookup f = some v ∧ Q v H1
theorem cv_fld {l : List (Nat × Nat)} (F : FldOk K T f l) : CallV K T (r1of (rFld K f)) (prFld l) := fun G H vs ds fl d Q x c hp k => by
  unfold prFld at hp
  split at hp
  · obtain ⟨u, rfl, c1⟩ := c.one
    rename_i cc es
    split at hp
    · rename_i i hi
      split at hp
      · rename_i d' hd
        cases hp
        obtain ⟨h1, h2, h3, _⟩ := F.ok _ _ hi
        obtain ⟨p, dx, ws, e, s, z, r⟩ := c1.ins x
        obtain ⟨w, hw, rw'⟩ := r.get hd
        exact ⟨p, T.C cc, dx, _, w, e, s, h2, h3, ixF_lookup h1 hw, k _ _ _ (new_same x rw')⟩
      · cases hp
    · cases hp
  · cases hp
theorem pe_fld' {l : List (Nat × Nat)} {oe : Expr} {o : Opd} {pos : Pos} (F : FldOk X.K B.T f l) (ho : PE X oe (tO X.K B o)) (hb : attributeBase oe f X.env (eval oe X.env) = eval oe X.env := by rfl) : PE X (.Attribute oe f pos) (tF X.K B (fPrim (prFld l) [o])) :=
  pe_un1 (r := rFld X.K f) (pe_fld ho hb) (cv_fld F)
/-! self.f = e -/
def sFldS (l : List (Nat × Nat)) (i : Nat) (g : EF) : SF := fun ρ => match g ρ with
  | .ok _ d ρ1 => match ρ1[i]? with
    | some (some (.ow, .ins c ds)) => match l.lookup c with
      | some j => if j ≤ ds.length then .nx (ρ1.set i (some (.ow, .ins c (putI ds j d)))) else .no
      | none => .no
    | some (some (.bo, .ins c ds)) => match l.lookup c with
      | some j => if j ≤ ds.length then .nx (ρ1.set i (some (.bo, .ins c (putI ds j d)))) else .no
      | none => .no
    | _ => .no
  | .ex x ρ1 => .ex x ρ1
  | .no => .no
theorem fld_step {l : List (Nat × Nat)} {i : Nat} {fl : Fl} {c : Nat} {ds : List D} {d : D} {y : V} {G1 H1 : Hp} {ρ1 : Ve} (F : FldOk K B.T f l) (e1 : Ex G G1) (S1 : Sim K B G1 H1 σ ρ1) (ry : Rep K B.T G1 d y) (hi : ρ1[i]? = some (some (fl, .ins c ds))) (hn : fl ≠ .fz)
    (q : PostS K B G Dn (match l.lookup c with | some j => if j ≤ ds.length then .nx (ρ1.set i (some (fl, .ins c (putI ds j d)))) else .no | none => .no)) :
    tVar i σ H1 fun x H2 => ∃ a C dx fs, x = .ref a ∧ H2 a = some (.ins C dx fs) ∧ Cls K C ∧ NoAttr K C f ∧ fs.length < 1000 ∧ Dn.nx σ (upd H2 a (.ins C dx (putF f y fs))) := by
  obtain ⟨p, hs, ⟨dx, vs, hp, hz, r⟩, hg⟩ := S1.own hi hn
  cases hl : l.lookup c with
  | none => rw [hl] at q; exact q.elim
  | some j =>
    rw [hl] at q
    obtain ⟨h1, h2, h3, h4⟩ := F.ok _ _ hl
    dsimp only at q
    by_cases hj : j ≤ ds.length
    · rw [if_pos hj] at q
      have hj' : j ≤ vs.length := by rw [r.len]; exact hj
      refine ⟨.ref p, hs, p, B.T.C c, dx, _, rfl, hp, h2, h3, by rw [List.length_zip]; omega, ?_⟩
      rw [ixF_put h1 hj']
      exact q G1 _ σ e1 (S1.put hi hn hs hg ⟨dx, _, upd_same, putI_len hz (ixF_lt h1) hj', r.putI j ry⟩)
    · rw [if_neg hj] at q; exact q.elim
theorem ps_fldS {l : List (Nat × Nat)} {i : Nat} {g : EF} {oe value : Expr} {pos' pos : Pos} (F : FldOk X.K B.T f l) (ho : PE X oe (tVar i)) (hv : PE X value (tF X.K B g)) (hs : swapsWith value (some (.Attribute oe f pos')) pos.line X.env = pure false := by rfl) :
    PS X (.Assign [.Attribute oe f pos'] value pos) (tS X.K B (sFldS l i g)) := PS.imp (ps_fld ho hv hs) fun D σ H ⟨G, ρ, S, q⟩ => by
  refine ⟨G, ρ, S, PostZ.toE ?_⟩
  dsimp only [sFldS] at q
  cases h : g ρ with
  | ex x ρ1 => rw [h] at q; exact q
  | no => rw [h] at q; exact q
  | ok fl d ρ1 =>
    rw [h] at q
    intro G1 H1 y e1 S1 ry
    dsimp only at q
    split at q
    · rename_i c ds hi
      exact fld_step F e1 S1 ry hi (by decide) q
    · rename_i c ds hi
      exact fld_step F e1 S1 ry hi (by decide) q
    · exact q.elim
/-! C(..) -/
def fMake (c : Nat) (m : FM) (os : List Opd) : EF := fun ρ => match evOs os ρ with
  | .ok hs ρ1 => match vals hs with
    | some ds => match m (.ins c [] :: ds) with
      | .ok _ .non out => .ok true out ρ1
      | _ => .no
    | none => .no
  | .ex x ρ1 => .ex x ρ1
  | .no => .no
theorem make_step {c : Nat} {m : FM} {n : Nat} {us : List V} {ds : List D} {G1 H1 : Hp} {ρ1 : Ve} {x dx : Addr} (e1 : Ex G G1) (S1 : Sim K B G1 H1 σ ρ1) (r : RepL K B.T G1 ds us) (hl : us.length + 1 = n) (hx : H1 x = none) (hd : H1 dx = none) (ne : dx ≠ x)
    (q : PostE K B G σ Q (match m (.ins c [] :: ds) with | .ok _ .non out => .ok true out ρ1 | _ => .no)) :
    spI K B.T n m (.ref x :: us) (upd (upd H1 dx (.own x)) x (.ins (B.T.C c) dx [])) (fun v H2 => v = .non ∧ Q (.ref x) H2) E0 := by
  have hx1 : (upd H1 dx (.own x)) x = none := by rw [upd_ne (Ne.symm ne)]; exact hx
  have hgx : G1 x = none := S1.ex.ne hx
  refine ⟨by rw [List.length_cons]; exact hl, G1, x, .ins c [], us, ds, rfl, (S1.ex.upd hd).upd hx1, S1.tbs, ⟨dx, [], by rw [List.zip_nil_right]; exact upd_same, Nat.zero_le _, rfl⟩, hgx, r, ?_⟩
  have old : ∀ a o, H1 a = some o → a ≠ x ∧ (upd (upd H1 dx (.own x)) x (.ins (B.T.C c) dx [])) a = some o := fun a o h => by
    have n1 : a ≠ x := ne_of_none h hx
    have n2 : a ≠ dx := ne_of_none h hd
    exact ⟨n1, by rw [upd_ne n1, upd_ne n2]; exact h⟩
  have none1 : ∀ a, (upd (upd H1 dx (.own x)) x (.ins (B.T.C c) dx [])) a = none → H1 a = none := fun a h => by
    cases z : H1 a with
    | none => rfl
    | some o => rw [(old a o z).2] at h; cases h
  cases h3 : m (.ins c [] :: ds) with
  | no => rw [h3] at q; exact q
  | ex x ρ => rw [h3] at q; exact q.elim
  | ok fl d out =>
    rw [h3] at q
    cases d with
    | non =>
      intro G' H' v e x' nw f nn own res
      have hv : v = .non := by
        cases fl with
        | false => exact res
        | true => obtain ⟨_, _, _, _, h⟩ := res; exact h.elim
      have hx' : G' x = none := by
        cases z : G' x with
        | none => rfl
        | some o =>
          rcases nw x o z with w | w | w
          · rw [hgx] at w; cases w
          · rw [upd_same] at w; cases w
          · obtain ⟨u, hu⟩ := own.has; exact (tp_no x' z w hu (own.ntp hu)).elim
      have nk : NewOk K B.T G1 H1 G' H' true (.ref x) out := ⟨⟨e, x', fun a o h => by
        rcases nw a o h with w | w | w
        · exact .inl w
        · exact .inr (.inl (none1 a w))
        · exact .inr (.inr w), fun a o h nt => f a o (old a o h).1 (old a o h).2 nt, fun a h => none1 a (nn a h)⟩, x, rfl, hx, hx', own⟩
      exact ⟨hv, q G' H' (.ref x) (e1.trans e) (S1.grow nk.1) (nk.val S1)⟩
    | _ => exact q.elim
theorem make_read {c : Nat} {m : FM} {os : List Opd} {n : Nat} (S : Sim K B G H σ ρ) (q : PostE K B G σ Q (fMake c m os ρ)) (hn : os.length + 1 = n) :
    tOs K B os σ H fun vs H1 => ∀ x dx, H1 x = none → H1 dx = none → dx ≠ x → spI K B.T n m (.ref x :: vs) (upd (upd H1 dx (.own x)) x (.ins (B.T.C c) dx [])) (fun v H2 => v = .non ∧ Q (.ref x) H2) E0 := by
  refine tOs_run S ?_
  dsimp only [fMake] at q
  cases h1 : evOs os ρ with
  | ok hs ρ1 =>
    rw [h1] at q
    intro G1 H1 vs e1 S1 k1 x dx hx hd ne
    dsimp only at q
    cases h2 : vals hs with
    | none => rw [h2] at q; exact q.elim
    | some ds =>
      rw [h2] at q
      exact make_step e1 S1 (vals_ok k1 h2) (by rw [k1.len, evOs_len h1, hn]) hx hd ne q
  | ex x ρ1 => rw [h1] at q; exact q
  | no => rw [h1] at q; exact q
theorem pe_mk {k : Nat} {fi : Addr} {c : Nat} {m : FM} {n : Nat} {os : List Opd} {x : Str} {p pos : Pos} (M : Mk X.K (B.T.C c) fi) (F : FnR X.prog X.w X.K X.mg X.base (L2N.CX X.prog X.w) k fi (spI X.K B.T n m)) (hr : Room (k + 1) X.A) (hg : Gl X x) (hm : X.mg x = some (.ref (B.T.C c)))
    (ha : PA X (e :: es) (tOs X.K B os)) (hn : os.length + 1 = n := by rfl) (hdb : (x == ("__debug__" : Str)) = false := by decide) (he : starEach (e :: es) X.env = (false, eval e X.env) :: starEach es X.env := by rfl) (hpl : (backTo pos (starEach es X.env)).any (·.1) = false := by rfl) :
    PE X (.Call (.Name x p) (e :: es) [] pos) (tF X.K B (fMake c m os)) :=
  PE.imp (StX.pe_makeR M F hr hg hm passN ha hdb he hpl) fun σ H Q ⟨G, ρ, S, q⟩ => make_read S q hn
/-! o.m(..) -/
def fMeth (c : Nat) (m : FM) (f : EF) (os : List Opd) : EF := fun ρ => match f ρ with
  | .ok _ (.ins c' fs) ρ0 => if c' = c then match evOs os ρ0 with
    | .ok hs ρ1 => match vals hs with
      | some ds => match m (.ins c fs :: ds) with
        | .ok fl d _ => .ok fl d ρ1
        | .ex x _ => .ex x ρ1
        | .no => .no
      | none => .no
    | .ex x ρ1 => .ex x ρ1
    | .no => .no
    else .no
  | .ok _ _ _ => .no
  | .ex x ρ1 => .ex x ρ1
  | .no => .no
theorem meth_read {W : WX} (hW : ∀ (G H : Hp) (ρ : Ve) (x : D) (cls : Value) (d : Option Addr), Sim K B G H σ ρ → B.wX x ρ → ExRep K B.T G H x cls d → W cls d σ H) {c : Nat} {m : FM} {f : EF} {os : List Opd} {n : Nat} {nm : Str} {R : V → List V → Hp → Prop} (hR : ∀ x vs H2, vs.length = os.length → spF K B.T n m (x :: vs) H2 Q (WE W σ) → R x vs H2) (hnm : ixF nm (B.T.L c) = none) (S : Sim K B G H σ ρ) (q : PostE K B G σ Q (fMeth c m f os ρ)) (hn : os.length + 1 = n) :
    tF K B f σ H fun x H1 => ∃ a dx fs, x = .ref a ∧ H1 a = some (.ins (B.T.C c) dx fs) ∧ fs.lookup nm = none ∧ tOs K B os σ H1 fun vs H2 => R x vs H2 := by
  refine ⟨G, ρ, S, PostZ.toE ?_⟩
  dsimp only [fMeth] at q
  cases hf : f ρ with
  | no => rw [hf] at q; exact q
  | ex x ρ1 => rw [hf] at q; exact q
  | ok fl d ρ0 =>
    rw [hf] at q
    cases d with
    | ins c' fs =>
      dsimp only at q
      by_cases hc : c' = c
      · rw [if_pos hc] at q
        subst hc
        intro G0 H0 v e0 S0 rv
        obtain ⟨p, dx, ws, ev, hp, hz, r⟩ := Cont.ins S0.ex (.inl rv)
        refine ⟨p, dx, _, ev, hp, ixF_none hnm, ?_⟩
        refine tOs_run S0 ?_
        cases h1 : evOs os ρ0 with
        | ok hs ρ1 =>
          rw [h1] at q
          intro G1 H1 vs e1 S1 k1
          dsimp only at q
          cases h2 : vals hs with
          | none => rw [h2] at q; exact q.elim
          | some ds =>
            rw [h2] at q
            refine hR _ _ _ (by rw [k1.len, evOs_len h1]) ⟨by rw [List.length_cons, k1.len, evOs_len h1, hn], G1, .ins c' fs :: ds, S1.ex, S1.tbs, ⟨v, vs, rfl, Rep.mono e1 rv, vals_ok k1 h2⟩, ?_⟩
            dsimp only at q
            cases h3 : m (.ins c' fs :: ds) with
            | ok fl d out =>
              rw [h3] at q
              exact fun G' H' v nw => q G' H' v ((e0.trans e1).trans nw.1.e) (S1.grow nw.1) (nw.val S1)
            | ex x out => rw [h3] at q; exact fun G' H' cls d gr er => hW G' H' ρ1 x cls d (S1.grow gr) q er
            | no => rw [h3] at q; exact q
        | ex x ρ1 => rw [h1] at q; exact q
        | no => rw [h1] at q; exact q
      · rw [if_neg hc] at q; exact q.elim
    | _ => exact q.elim
theorem pe_me [xk : XOk X B] {pl : Sem Bool} {k c : Nat} {fa : Addr} {m : FM} {n : Nat} {f : EF} {os : List Opd} {o : Expr} {nm : Str} {pos apos : Pos} (he : PE X o (tF X.K B f)) (cl : Cls X.K (B.T.C c)) (hm : Meth X.K (B.T.C c) nm fa) (hnm : ixF nm (B.T.L c) = none) (F : FnR X.prog X.w X.K X.mg X.base (L2N.CX X.prog X.w) k fa (spF X.K B.T n m)) (hr : Room k X.A)
    (ha : PA X (e :: es) (tOs X.K B os)) (hn : os.length + 1 = n := by rfl) (hst : starEach (e :: es) X.env = (false, eval e X.env) :: starEach es X.env := by rfl) (hpl : (backTo pos (starEach es X.env)).any (·.1) = false := by rfl)
    (ht : eval (.Call (.Attribute o nm apos) (e :: es) [] pos) X.env = (do
      let ov ← eval o X.env
      standAt apos.atName
      let (f, first) ← holding [ov] (getMethod ov nm pl)
      callWith pos f first (backTo pos (starEach (e :: es) X.env)) (backToKw pos (keywordEach [] X.env))) := by rfl) :
    PE X (.Call (.Attribute o nm apos) (e :: es) [] pos) (tF X.K B (fMeth c m f os)) :=
  xk.ok.elim fun W h => PE.imp (pe_MR (pl := pl) h.1 he cl hm F hr ha hst hpl ht) fun σ H Q ⟨G, ρ, S, q⟩ => meth_read (fun G H ρ => h.2 G H σ ρ) (fun _ _ _ _ h => h) hnm S q hn
theorem pe_me0 [xk : XOk X B] {pl : Sem Bool} {k c : Nat} {fa : Addr} {m : FM} {f : EF} {o : Expr} {nm : Str} {pos apos : Pos} (he : PE X o (tF X.K B f)) (cl : Cls X.K (B.T.C c)) (hm : Meth X.K (B.T.C c) nm fa) (hnm : ixF nm (B.T.L c) = none) (F : FnR X.prog X.w X.K X.mg X.base (L2N.CX X.prog X.w) k fa (spF X.K B.T 1 m)) (hr : Room k X.A)
    (ht : eval (.Call (.Attribute o nm apos) [] [] pos) X.env = (do
      let ov ← eval o X.env
      standAt apos.atName
      let (f, first) ← holding [ov] (getMethod ov nm pl)
      callWith pos f first (backTo pos (starEach [] X.env)) (backToKw pos (keywordEach [] X.env))) := by rfl) :
    PE X (.Call (.Attribute o nm apos) [] [] pos) (tF X.K B (fMeth c m f [])) :=
  xk.ok.elim fun W h => PE.imp (pe_MR0 (pl := pl) h.1 he cl hm F hr ht) fun σ H Q ⟨G, ρ, S, q⟩ => meth_read (os := []) (fun G H ρ => h.2 G H σ ρ) (fun _ _ _ _ h => h) hnm S q rfl
/-- o.m(k=e, ..): the keywords are the parameters behind self, in their order -/
theorem pe_meK [xk : XOk X B] {ks : List Str} {gV : List V → List V → List V} {kws : List Keyword} {pl : Sem Bool} {k c : Nat} {fa : Addr} {m : FM} {n : Nat} {f : EF} {os : List Opd} {o : Expr} {nm : Str} {pos apos : Pos} (he : PE X o (tF X.K B f)) (cl : Cls X.K (B.T.C c)) (hm : Meth X.K (B.T.C c) nm fa) (hnm : ixF nm (B.T.L c) = none)
    (F : FnKw X.prog X.w X.K X.mg X.base (L2N.CX X.prog X.w) k fa 1 ks gV (spF X.K B.T n m)) (hr : Room k X.A) (hkw : PK X kws (tOs X.K B os)) (hgv : ∀ x zs, gV [x] zs = x :: zs := by intro _ _; rfl) (hn : os.length + 1 = n := by rfl) (hnk : os.length = ks.length := by rfl)
    (hall : (backToKw pos (keywordEach kws X.env)).all (·.1.isSome) = true := by rfl) (hks : (backToKw pos (keywordEach kws X.env)).filterMap (·.1) = ks := by rfl)
    (hpl : ((backTo pos (starEach [] X.env)).any (·.1) || (backToKw pos (keywordEach kws X.env)).any (·.1.isNone)) = false := by rfl)
    (ht : eval (.Call (.Attribute o nm apos) [] kws pos) X.env = (do
      let ov ← eval o X.env
      standAt apos.atName
      let (f, first) ← holding [ov] (getMethod ov nm pl)
      callWith pos f first (backTo pos (starEach [] X.env)) (backToKw pos (keywordEach kws X.env))) := by rfl) :
    PE X (.Call (.Attribute o nm apos) [] kws pos) (tF X.K B (fMeth c m f os)) :=
  xk.ok.elim fun W h => PE.imp (pe_MRK0 (pl := pl) h.1 he cl hm F hr hkw hall hks hpl ht) fun σ H Q ⟨G, ρ, S, q⟩ => by
    exact meth_read (os := os) (fun G H ρ => h.2 G H σ ρ) (R := fun x zs H2 => zs.length = ks.length ∧ spF X.K B.T n m (gV [x] zs) H2 Q (WE W σ)) (fun x vs H2 hl h => ⟨by rw [hl, hnk], by rw [hgv]; exact h⟩) hnm S q hn
/-! o.f, a property: nothing leaves the getter -/
def fPrp (c : Nat) (m : FM) (f : EF) : EF := fun ρ => match f ρ with
  | .ok _ (.ins c' fs) ρ0 => if c' = c then match m [.ins c fs] with
    | .ok fl d _ => .ok fl d ρ0
    | _ => .no
    else .no
  | _ => .no
theorem prp_read {c : Nat} {m : FM} {f : EF} {nm : Str} (hnm : ixF nm (B.T.L c) = none) (S : Sim K B G H σ ρ) (q : PostE K B G σ Q (fPrp c m f ρ)) :
    tF K B f σ H fun x H1 => ∃ a dx fs, x = .ref a ∧ H1 a = some (.ins (B.T.C c) dx fs) ∧ fs.lookup nm = none ∧ spF K B.T 1 m [x] H1 Q E0 := by
  refine ⟨G, ρ, S, PostZ.toE ?_⟩
  dsimp only [fPrp] at q
  cases hf : f ρ with
  | no => rw [hf] at q; exact q
  | ex x ρ1 => rw [hf] at q; exact q.elim
  | ok fl d ρ0 =>
    rw [hf] at q
    cases d with
    | ins c' fs =>
      dsimp only at q
      by_cases hc : c' = c
      · rw [if_pos hc] at q
        subst hc
        intro G0 H0 v e0 S0 rv
        obtain ⟨p, dx, ws, ev, hp, hz, r⟩ := Cont.ins S0.ex (.inl rv)
        refine ⟨p, dx, _, ev, hp, ixF_none hnm, rfl, G0, [.ins c' fs], S0.ex, S0.tbs, ⟨v, [], rfl, rv, rfl⟩, ?_⟩
        cases h3 : m [.ins c' fs] with
        | ok fl d out =>
          rw [h3] at q
          exact fun G' H' v nw => q G' H' v (e0.trans nw.1.e) (S0.grow nw.1) (nw.val S0)
        | ex x out => rw [h3] at q; exact q.elim
        | no => rw [h3] at q; exact q
      · rw [if_neg hc] at q; exact q.elim
    | _ => exact q.elim
theorem pe_pr {k c : Nat} {pa g : Addr} {fd : FuncData} {ps : List Str} {m : FM} {f : EF} {o : Expr} {nm : Str} {pos : Pos} (he : PE X o (tF X.K B f)) (cl : Cls X.K (B.T.C c)) (hp : PropOf X.K (B.T.C c) nm pa g) (F : FnOk X.prog X.w X.K X.mg X.base (L2N.CX X.prog X.w) k g fd ps (spF X.K B.T 1 m)) (hb : Binds X.K fd ps []) (hr : Room (k + 1) X.A)
    (hab : attributeBase o nm X.env (eval o X.env) = eval o X.env := by rfl) (hnm : ixF nm (B.T.L c) = none := by rfl) : PE X (.Attribute o nm pos) (tF X.K B (fPrp c m f)) :=
  PE.imp (pe_prop he cl hp F hr hb (show Vals [] [] by constructor) passN hab) fun σ H Q ⟨G, ρ, S, q⟩ => by
    obtain ⟨G0, ρ0, S0, q0⟩ := prp_read hnm S q
    refine ⟨G0, ρ0, S0, ?_⟩
    cases hf : f ρ0 with
    | no => rw [hf] at q0; exact q0
    | ex x ρ1 => rw [hf] at q0; exact q0
    | ok fl d ρ1 =>
      rw [hf] at q0
      intro G1 H1 v e1 S1 k1
      obtain ⟨a, dx, fs, ev, ea, lk, q1⟩ := q0 G1 H1 v e1 S1 k1
      exact ⟨a, dx, fs, ev, ea, by rw [← ev]; exact q1⟩
end
end Pf
/-! part Pf13 -/
set_option Elab.async false
set_option linter.all false
set_option maxRecDepth 100000
set_option maxHeartbeats 1000000
/-! Pf13: comprehensions of two clauses; for over a dict. -/
namespace Pf
open PySem PySem.Spec PyProof.Rows L2
section
variable {X : Cx} {B : Bs} {K : PySem.W.Frag} {T : Tab} {G G' H H' : Hp} {σ σ' : L2.St} {ρ ρ' : Ve} {Q : VK} {v : V} {e tg iter : Expr} {es : List Expr} {p : Addr} {Dn : Ends} {f : Str} {st : Stmt}
/-- the turns of a clause -/
theorem loop_read {vs : List Nat} {t : Tg} {c : TFn} {el : EF} {G1 H1 : Hp} {J : It} {ds : List D} {ρ0 : Ve} {pre0 : List D} {us0 : List V} {Qd : Hp → Prop} (ht : t.inn vs) (wd : WalkD K B.T G1 J ds) (m0 : Mk1 K B G1 H1 (L2.wipe σ vs) ρ0 p us0) (r0 : RepL K B.T G1 pre0 us0)
    (hz : pre0.length + ds.length ≤ 100000) (q : PostC K B G1 (L2.wipe σ vs) p Qd pre0 (loopC vs t c el ds ρ0)) :
    ∃ W : Nat → Nat → Hp → Prop, (∃ m, W 0 m H1) ∧ ∀ i m H, W i m H →
      (J.stop i H ∧ Qd H) ∨ (J.go i H ∧ ∃ Nx : Hp → Prop, (∀ H', Nx H' → ∃ m', m' < m ∧ W (i + 1) m' H') ∧ ∀ x H', J.yld i H x H' → tGa K B t x (L2.wipe σ vs) H' fun σ2 H2 => L2.wipe σ2 vs = L2.wipe σ vs ∧ tTa K B c σ2 H2 fun b H3 =>
        if b = true then tFa K B el σ2 H3 fun y H4 => ∃ acc, H4 p = some (.lst acc) ∧ acc.length < sizeLine ∧ Nx (upd H4 p (.lst (acc ++ [y]))) else Nx H3) := by
  refine ⟨fun i k H => k = ds.length - i ∧ i ≤ ds.length ∧ ∃ G2 ρ2 pre us, Ex G1 G2 ∧ pre.length ≤ pre0.length + i ∧ Mk1 K B G2 H (L2.wipe σ vs) ρ2 p us ∧ RepL K B.T G2 pre us ∧ PostC K B G1 (L2.wipe σ vs) p Qd pre (loopC vs t c el (ds.drop i) ρ2),
    ⟨ds.length, by simp, Nat.zero_le _, G1, _, pre0, us0, Ex.refl _, Nat.le_refl _, m0, r0, q⟩, ?_⟩
  rintro i k H2 ⟨rfl, hi, G2, ρ2, pre, us, e2, hpre, m2, r2, q2⟩
  by_cases hlt : i < ds.length
  · refine .inr ⟨wd.go G2 H2 i e2 m2.s.ex hlt, fun H' => i + 1 ≤ ds.length ∧ ∃ G2 ρ2 pre us, Ex G1 G2 ∧ pre.length ≤ pre0.length + (i + 1) ∧ Mk1 K B G2 H' (L2.wipe σ vs) ρ2 p us ∧ RepL K B.T G2 pre us ∧ PostC K B G1 (L2.wipe σ vs) p Qd pre (loopC vs t c el (ds.drop (i + 1)) ρ2),
      fun H' w => ⟨ds.length - (i + 1), by omega, rfl, w⟩, fun x H3 y => ?_⟩
    obtain ⟨G3, d, hd, gr, rx⟩ := wd.yld G2 H2 i x H3 e2 m2.s.ex hlt y
    have hdr : ds.drop i = d :: ds.drop (i + 1) := by
      rw [List.drop_eq_getElem_cons hlt]
      congr 1
      rw [List.getElem?_eq_getElem hlt] at hd
      exact Option.some.inj hd
    rw [hdr] at q2
    have m3 := m2.grow gr
    refine turn_read ht (by omega) (e2.trans gr.e) m3 (r2.mono gr.e) rx q2 fun G' H' ρ' pre' us' e' hl' m' r' q' => ⟨hlt, G', ρ', pre', us', e', by omega, m', r', q'⟩
  · have e : i = ds.length := by omega
    subst e
    rw [List.drop_length] at q2
    exact .inl ⟨wd.stop G2 H2 e2 m2.s.ex, q2 G2 H2 us e2 m2 (by rw [List.append_nil]; exact r2)⟩
theorem CR.con_len {y : D} {r : CR} {ys : List D} {ρ : Ve} (h : r.con y = .ok ys ρ) : ∃ zs, r = .ok zs ρ ∧ ys = y :: zs := by
  cases r with
  | ok zs ρ' => cases h; exact ⟨zs, rfl, rfl⟩
  | ex x ρ' => cases h
  | no => cases h
theorem loopC_len {vs : List Nat} {t : Tg} {c : TFn} {el : EF} : ∀ {ds : List D} {ρ : Ve} {ys : List D} {ρ' : Ve}, loopC vs t c el ds ρ = .ok ys ρ' → ys.length ≤ ds.length
  | [], _, _, _, h => by cases h; exact Nat.le_refl _
  | d :: ds, ρ, ys, ρ', h => by
    unfold loopC at h
    split at h
    · cases h
    · split at h
      · split at h
        · obtain ⟨zs, h1, h2⟩ := CR.con_len h
          rw [h2]
          have := loopC_len h1
          simp; omega
        · cases h
        · cases h
      · have := loopC_len h
        simp; omega
      · cases h
      · cases h
def CR.cat (xs : List D) : CR → CR
  | .ok ys ρ => .ok (xs ++ ys) ρ
  | r => r
theorem PostC.cat {G1 : Hp} {Qd : Hp → Prop} {pre : List D} {ys : List D} {r : CR} (h : PostC K B G1 σ p Qd pre (r.cat ys)) : PostC K B G1 σ p Qd (pre ++ ys) r := by
  cases r with
  | ok zs ρ => intro G' H' vs e m rr; exact h G' H' vs e m (by rw [List.append_assoc] at rr; exact rr)
  | ex x ρ => exact h
  | no => exact h
def loopC2 (vs vs1 : List Nat) (t : Tg) (c : TFn) (F1 : ITf) (t1 : Tg) (c1 : TFn) (el : EF) : Nat → List D → Ve → CR
  | _, [], ρ => .ok [] ρ
  | n, d :: ds, ρ => match asgT t false d ρ with
    | none => .no
    | some ρ1 => match c ρ1 with
      | .ok true ρ2 => match F1 ρ2 with
        | .ok ds1 ρ3 => if n + ds1.length ≤ 100000 then (match loopC vs1 t1 c1 el ds1 (wipeV ρ3 vs1) with
          | .ok ys ρ4 => (loopC2 vs vs1 t c F1 t1 c1 el (n + ds1.length) ds (wipeV ρ4 vs)).cat ys
          | .ex x ρ4 => .ex x ρ4
          | .no => .no) else .no
        | .ex x ρ3 => .ex x ρ3
        | .no => .no
      | .ok false ρ2 => loopC2 vs vs1 t c F1 t1 c1 el n ds (wipeV ρ2 vs)
      | .ex x ρ2 => .ex x ρ2
      | .no => .no
def fLc2 (vs vs1 : List Nat) (F : ITf) (t : Tg) (c : TFn) (F1 : ITf) (t1 : Tg) (c1 : TFn) (el : EF) : EF := fun ρ => match F ρ with
  | .ok ds ρ1 => if okOwn ρ1 vs = true then (match loopC2 vs vs1 t c F1 t1 c1 el 0 ds (wipeV ρ1 vs) with
    | .ok ys ρ2 => .ok true (.lst ys) (restV ρ1 ρ2 vs)
    | .ex _ _ => .no
    | .no => .no) else .no
  | .ex x ρ1 => .ex x ρ1
  | .no => .no
theorem wipe_sub {vs vs1 : List Nat} (h : ∀ i ∈ vs1, i ∈ vs) : L2.wipe (L2.wipe σ vs1) vs = L2.wipe σ vs :=
  wipe_eq (wipe_len σ vs1) fun i hi => wipe_get σ fun z => hi (h i z)
theorem turn_read2 {G1 : Hp} {vs vs1 : List Nat} {t t1 : Tg} {c c1 : TFn} {F1 : ITf} {el : EF} {Qd : Hp → Prop} {n : Nat} {pre : List D} {us : List V} {d : D} {ds : List D} {x : V} {Nx : Hp → Prop}
    (ht : t.inn vs) (ht1 : t1.inn vs1) (hv : ∀ i ∈ vs1, i ∈ vs) (hz : pre.length ≤ n) (e1 : Ex G1 G) (m : Mk1 K B G H (L2.wipe σ vs) ρ p us) (r : RepL K B.T G pre us) (rx : Rep K B.T G d x) (q : PostC K B G1 (L2.wipe σ vs) p Qd pre (loopC2 vs vs1 t c F1 t1 c1 el n (d :: ds) ρ))
    (hn : ∀ G' H' ρ' pre' us' n', Ex G1 G' → pre'.length ≤ n' → Mk1 K B G' H' (L2.wipe σ vs) ρ' p us' → RepL K B.T G' pre' us' → PostC K B G1 (L2.wipe σ vs) p Qd pre' (loopC2 vs vs1 t c F1 t1 c1 el n' ds ρ') → Nx H') :
    tGa K B t x (L2.wipe σ vs) H fun σ2 H2 => L2.wipe σ2 vs = L2.wipe σ vs ∧ tTa K B c σ2 H2 fun b H3 =>
      if b = true then tIa K B F1 σ2 H3 fun J1 H4 => ∃ W1 : Nat → Nat → Hp → Prop, (∃ m, W1 0 m H4) ∧ ∀ j k H, W1 j k H →
        (J1.stop j H ∧ Nx H) ∨ (J1.go j H ∧ ∃ Nx1 : Hp → Prop, (∀ H', Nx1 H' → ∃ k', k' < k ∧ W1 (j + 1) k' H') ∧ ∀ x H', J1.yld j H x H' → tGa K B t1 x (L2.wipe σ2 vs1) H' fun σ3 H5 => L2.wipe σ3 vs1 = L2.wipe σ2 vs1 ∧ tTa K B c1 σ3 H5 fun b H6 =>
          if b = true then tFa K B el σ3 H6 fun y H7 => ∃ acc, H7 p = some (.lst acc) ∧ acc.length < sizeLine ∧ Nx1 (upd H7 p (.lst (acc ++ [y]))) else Nx1 H6)
      else Nx H3 := by
  refine ⟨_, _, m.s.mmH, G, ρ, false, d, m.s.frame, rx, ?_⟩
  dsimp only [loopC2] at q
  cases ha : asgT t false d ρ with
  | none => rw [ha] at q; exact q.elim
  | some ρ1 =>
    rw [ha] at q
    intro G2 σ2 e2 S2 cg
    have m2 := m.step S2
    have hw := chg_wipe ht cg
    refine ⟨hw, _, _, m2.s.mmH, G2, ρ1, m2.s.frame, ?_⟩
    dsimp only at q
    cases hc : c ρ1 with
    | ex x ρ2 => rw [hc] at q; exact q.elim
    | no => rw [hc] at q; exact q.elim
    | ok b ρ2 =>
      rw [hc] at q
      intro G3 H3 e3 S3
      have m3 := m2.step S3
      have e13 := (e1.trans e2).trans e3
      cases b with
      | false =>
        rw [if_neg Bool.false_ne_true]
        have m3' := m3.wipe vs
        rw [hw] at m3'
        exact hn G3 H3 _ pre us n e13 hz m3' (r.mono (e2.trans e3)) q
      | true =>
        rw [if_pos rfl]
        refine ⟨_, _, m3.s.mmH, G3, ρ2, m3.s.frame, ?_⟩
        dsimp only at q
        cases hF : F1 ρ2 with
        | ex x ρ3 => rw [hF] at q; exact q.elim
        | no => rw [hF] at q; exact q.elim
        | ok ds1 ρ3 =>
          rw [hF] at q
          intro G4 H4 J e4 S4 wd
          have m4 := m3.step S4
          dsimp only at q
          by_cases hk : n + ds1.length ≤ 100000
          · rw [if_pos hk] at q
            have e14 := e13.trans e4
            refine loop_read (Qd := Nx) ht1 wd (m4.wipe vs1) (r.mono ((e2.trans e3).trans e4)) (by omega) ?_
            cases hL : loopC vs1 t1 c1 el ds1 (wipeV ρ3 vs1) with
            | ex x ρ4 => rw [hL] at q; exact q.elim
            | no => rw [hL] at q; exact q.elim
            | ok ys ρ4 =>
              rw [hL] at q
              intro G5 H5 us5 e5 m5 r5
              have hl := loopC_len hL
              have m5' := m5.wipe vs
              rw [wipe_sub hv, hw] at m5'
              exact hn G5 H5 _ (pre ++ ys) us5 (n + ds1.length) (e14.trans e5) (by rw [List.length_append]; omega) m5' r5 q.cat
          · rw [if_neg hk] at q; exact q.elim
theorem lc2_read {vs vs1 : List Nat} {F F1 : ITf} {t t1 : Tg} {c c1 : TFn} {el : EF} (ht : t.inn vs) (ht1 : t1.inn vs1) (hv : ∀ i ∈ vs1, i ∈ vs) (S : Sim K B G H σ ρ) (q : PostE K B G σ Q (fLc2 vs vs1 F t c F1 t1 c1 el ρ)) :
    tLc2 (tI K B F) (tGa K B t) (tTa K B c) (tIa K B F1) (tGa K B t1) (tTa K B c1) (tFa K B el) vs vs1 σ H Q := by
  refine ⟨G, ρ, S, ?_⟩
  dsimp only [fLc2] at q
  cases h1 : F ρ with
  | ex x ρ1 => rw [h1] at q; exact q
  | no => rw [h1] at q; exact q
  | ok ds ρ1 =>
    rw [h1] at q
    intro G1 H1 J e1 S1 wd p hp
    dsimp only at q
    by_cases hok : okOwn ρ1 vs = true
    · rw [if_pos hok] at q
      have nd : NoSl σ ρ1 p := fun j f1 d1 hj n1 sj => by
        obtain ⟨v, ev, k⟩ := S1.sl j f1 d1 hj
        rw [sj] at ev; cases ev
        cases f1 with
        | fz => exact n1 rfl
        | ow => obtain ⟨w, ew, how, _⟩ := k; cases ew; obtain ⟨o, h⟩ := how.has; rw [hp] at h; cases h
        | bo => obtain ⟨w, ew, how, _⟩ := k; cases ew; obtain ⟨o, h⟩ := how.has; rw [hp] at h; cases h
      have m0 : Mk1 K B G1 (upd H1 p (.lst [])) σ ρ1 p [] := ⟨S1.poke (.inl hp) (S1.ex.ne hp) (S1.al p hp) nd, upd_same, S1.ex.ne hp, S1.al p hp, nd⟩
      have q' : PostC K B G1 (L2.wipe σ vs) p (fun H' => Q (.ref p) H') [] (loopC2 vs vs1 t c F1 t1 c1 el 0 ds (wipeV ρ1 vs)) := by
        cases h2 : loopC2 vs vs1 t c F1 t1 c1 el 0 ds (wipeV ρ1 vs) with
        | ex x ρ2 => rw [h2] at q; exact q
        | no => rw [h2] at q; exact q
        | ok ys ρ2 =>
          rw [h2] at q
          intro G' H' us e m r
          have hl : ρ2.length = ρ1.length := by rw [← m.s.len, wipe_len, S1.len]
          exact q G' H' _ (e1.trans e) (S1.back hok e m.s) ⟨p, rfl, ⟨us, m.h, r⟩, m.g, m.z, NoSl.back hl hok m.n⟩
      refine ⟨fun i k H => k = ds.length - i ∧ i ≤ ds.length ∧ ∃ G2 ρ2 pre us n, Ex G1 G2 ∧ pre.length ≤ n ∧ Mk1 K B G2 H (L2.wipe σ vs) ρ2 p us ∧ RepL K B.T G2 pre us ∧ PostC K B G1 (L2.wipe σ vs) p (fun H' => Q (.ref p) H') pre (loopC2 vs vs1 t c F1 t1 c1 el n (ds.drop i) ρ2),
        ⟨ds.length, by simp, Nat.zero_le _, G1, _, [], [], 0, Ex.refl _, Nat.le_refl _, m0.wipe vs, rfl, q'⟩, ?_⟩
      rintro i k H2 ⟨rfl, hi, G2, ρ2, pre, us, n, e2, hpre, m2, r2, q2⟩
      by_cases hlt : i < ds.length
      · refine .inr ⟨wd.go G2 H2 i e2 m2.s.ex hlt, fun H' => i + 1 ≤ ds.length ∧ ∃ G2 ρ2 pre us n, Ex G1 G2 ∧ pre.length ≤ n ∧ Mk1 K B G2 H' (L2.wipe σ vs) ρ2 p us ∧ RepL K B.T G2 pre us ∧ PostC K B G1 (L2.wipe σ vs) p (fun H' => Q (.ref p) H') pre (loopC2 vs vs1 t c F1 t1 c1 el n (ds.drop (i + 1)) ρ2),
          fun H' w => ⟨ds.length - (i + 1), by omega, rfl, w⟩, fun x H3 y => ?_⟩
        obtain ⟨G3, d, hd, gr, rx⟩ := wd.yld G2 H2 i x H3 e2 m2.s.ex hlt y
        have hdr : ds.drop i = d :: ds.drop (i + 1) := by
          rw [List.drop_eq_getElem_cons hlt]
          congr 1
          rw [List.getElem?_eq_getElem hlt] at hd
          exact Option.some.inj hd
        rw [hdr] at q2
        have m3 := m2.grow gr
        refine turn_read2 ht ht1 hv hpre (e2.trans gr.e) m3 (r2.mono gr.e) rx q2 fun G' H' ρ' pre' us' n' e' hl' m' r' q' => ⟨hlt, G', ρ', pre', us', n', e', hl', m', r', q'⟩
      · have e : i = ds.length := by omega
        subst e
        rw [List.drop_length] at q2
        exact .inl ⟨wd.stop G2 H2 e2 m2.s.ex, q2 G2 H2 us e2 m2 (by rw [List.append_nil]; exact r2)⟩
    · rw [if_neg hok] at q; exact q.elim
theorem pe_co2 {elt tg1 iter1 : Expr} {ifs ifs1 : List Expr} {scope : Scope} {own : List (Str × Nat)} {vs1 : List Nat} {pos : Pos} {F F1 : ITf} {t t1 : Tg} {c c1 : TFn} {el : EF} (hc : X.calm = true) (hN : X.N.Nodup) (hi : PI X tg iter (tI X.K B F)) (ok : BlkOk X.N X.env.scope scope own) (hv : ∀ i ∈ vs1, i ∈ own.map (·.2)) (ht : t.inn (own.map (·.2))) (ht1 : t1.inn vs1)
    (hg : ∀ (s : Shared) (H : Hp) (C : Addr) (cl : List (Str × Addr)) (fp : List Addr) h0 g0 mm, PG (X.blk s H scope (compEnvC scope cl C X.env) fp) tg (tG X.K (bb B h0 g0 mm) t))
    (hq : ∀ (s : Shared) (H : Hp) (C : Addr) (cl : List (Str × Addr)) (fp : List Addr) h0 g0 mm, PTs (X.blk s H scope (compEnvC scope cl C X.env) fp) ifs (tT X.K (bb B h0 g0 mm) c))
    (hi1 : ∀ (s : Shared) (H : Hp) (C : Addr) (cl : List (Str × Addr)) (fp : List Addr) h0 g0 mm, PI (X.blk s H scope (compEnvC scope cl C X.env) fp) tg1 iter1 (tI X.K (bb B h0 g0 mm) F1))
    (hg1 : ∀ (s : Shared) (H : Hp) (C : Addr) (cl : List (Str × Addr)) (fp : List Addr) h0 g0 mm, PG (X.blk s H scope (compEnvC scope cl C X.env) fp) tg1 (tG X.K (bb B h0 g0 mm) t1))
    (hq1 : ∀ (s : Shared) (H : Hp) (C : Addr) (cl : List (Str × Addr)) (fp : List Addr) h0 g0 mm, PTs (X.blk s H scope (compEnvC scope cl C X.env) fp) ifs1 (tT X.K (bb B h0 g0 mm) c1))
    (he : ∀ (s : Shared) (H : Hp) (C : Addr) (cl : List (Str × Addr)) (fp : List Addr) h0 g0 mm, PE (X.blk s H scope (compEnvC scope cl C X.env) fp) elt (tF X.K (bb B h0 g0 mm) el)) (hs : ∀ x, foldedSetIterable iter X.env x = pure x := by intro _; rfl) (hs1 : ∀ env x, foldedSetIterable iter1 env x = pure x := by intro _ _; rfl) :
    PE X (.ListComp elt [⟨tg, iter, ifs, 0⟩, ⟨tg1, iter1, ifs1, 0⟩] scope pos) (tF X.K B (fLc2 (own.map (·.2)) vs1 F t c F1 t1 c1 el)) :=
  PE.imp (pe_lc2 hc hN hi ok hv (fun s H C cl fp => pg_a (X := X.blk s H scope (compEnvC scope cl C X.env) fp) (hg s H C cl fp)) (fun s H C cl fp => pts_a (X := X.blk s H scope (compEnvC scope cl C X.env) fp) (hq s H C cl fp))
    (fun s H C cl fp => pi_a (X := X.blk s H scope (compEnvC scope cl C X.env) fp) (hi1 s H C cl fp)) (fun s H C cl fp => pg_a (X := X.blk s H scope (compEnvC scope cl C X.env) fp) (hg1 s H C cl fp)) (fun s H C cl fp => pts_a (X := X.blk s H scope (compEnvC scope cl C X.env) fp) (hq1 s H C cl fp))
    (fun s H C cl fp => pe_a (X := X.blk s H scope (compEnvC scope cl C X.env) fp) (he s H C cl fp)) hs hs1)
    fun σ H Q ⟨G, ρ, S, q⟩ => lc2_read ht ht1 hv S q
end
end Pf
/-! part Pf14 -/
set_option Elab.async false
set_option linter.all false
set_option maxRecDepth 100000
set_option maxHeartbeats 1000000
/-! Pf14: for over a dict that a name holds. -/
namespace Pf
open PySem PySem.Spec PyProof.Rows L2
def bb' (B : Bs) (h0 g0 : Hp) (M : Addr → Prop) (mm : (∀ a, M a → h0 a ≠ none) ∧ MkT B.T g0) : Bs := ⟨B.T, h0, g0, M, fun _ _ => False, mm.1, mm.2⟩
def tSb (K : PySem.W.Frag) (B : Bs) (f : SF) : TS := fun D σ H => ∃ h0 g0 M mm, tS K (bb' B h0 g0 M mm) f D σ H
def tGb (K : PySem.W.Frag) (B : Bs) (t : Tg) : TG := fun v σ H Q => ∃ h0 g0 M mm, tG K (bb' B h0 g0 M mm) t v σ H Q
def keyD : Key → D
  | .inl i => .int i
  | .inr s => .str s
section
variable {X : Cx} {B : Bs} {K : PySem.W.Frag} {T : Tab} {G G' H H' : Hp} {σ σ' : L2.St} {ρ ρ' : Ve} {Q : VK} {v : V} {e tg iter : Expr} {es : List Expr} {p : Addr} {Dn : Ends} {f : Str} {st : Stmt}
theorem pss_b {f : SF} {sts : List Stmt} (h : ∀ h0 g0 M mm, PSs X sts (tS X.K (bb' B h0 g0 M mm) f)) : PSs X sts (tSb X.K B f) := ⟨fun pins s σ H D I ⟨h0, g0, M, mm, q⟩ => (h h0 g0 M mm).run pins s σ H D I q⟩
theorem pg_b {t : Tg} (h : ∀ h0 g0 M mm, PG X e (tG X.K (bb' B h0 g0 M mm) t)) : PG X e (tGb X.K B t) := ⟨fun pins s σ H v u Q I r ⟨h0, g0, M, mm, q⟩ => (h h0 g0 M mm).run pins s σ H v u Q I r q⟩
/-- a walk, told behind any state of the frame -/
structure WalkS (K : PySem.W.Frag) (B : Bs) (G : Hp) (J : It) (ds : List D) : Prop where
  go : ∀ G1 H1 σ ρ i, Ex G G1 → Sim K B G1 H1 σ ρ → i < ds.length → J.go i H1
  stop : ∀ G1 H1 σ ρ, Ex G G1 → Sim K B G1 H1 σ ρ → J.stop ds.length H1
  yld : ∀ G1 H1 σ ρ i x H2, Ex G G1 → Sim K B G1 H1 σ ρ → i < ds.length → J.yld i H1 x H2 → ∃ G2 d, ds[i]? = some d ∧ Grow G1 H1 G2 H2 ∧ Rep K B.T G2 d x
theorem for_core {t : Tg} {body : SF} {ds : List D} {J : It} {h0 g0 : Hp} {M : Addr → Prop} {mm : (∀ a, M a → h0 a ≠ none) ∧ MkT B.T g0} (wd : WalkS K (bb' B h0 g0 M mm) G J ds) (S : Sim K (bb' B h0 g0 M mm) G H σ ρ) (q : PostS K (bb' B h0 g0 M mm) G Dn (loopS t body ds ρ)) :
    tFor (fun σ' H' R => σ' = σ ∧ H' = H ∧ R J H) (tGb K B t) (tSb K B body) Dn σ H := by
  refine ⟨rfl, rfl, ?_⟩
  refine ⟨fun i m σ H => m = ds.length - i ∧ i ≤ ds.length ∧ ∃ G2 ρ2, Ex G G2 ∧ Sim K (bb' B h0 g0 M mm) G2 H σ ρ2 ∧ PostS K (bb' B h0 g0 M mm) G2 Dn (loopS t body (ds.drop i) ρ2), ⟨ds.length, by simp, Nat.zero_le _, G, ρ, Ex.refl _, S, q⟩, ?_⟩
  rintro i m σ2 H2 ⟨rfl, hi, G2, ρ2, e2, S2, p2⟩
  by_cases hlt : i < ds.length
  · refine .inr ⟨wd.go G2 H2 σ2 ρ2 i e2 S2 hlt, fun σ' H' => (i + 1 ≤ ds.length ∧ ∃ G3 ρ3, Ex G G3 ∧ Sim K (bb' B h0 g0 M mm) G3 H' σ' ρ3 ∧ PostS K (bb' B h0 g0 M mm) G3 Dn (loopS t body (ds.drop (i + 1)) ρ3)), fun σ' H' ⟨h, w⟩ => ⟨ds.length - (i + 1), by omega, rfl, h, w⟩, fun x H3 y => ?_⟩
    obtain ⟨G3, d, hd, gr, rx⟩ := wd.yld G2 H2 σ2 ρ2 i x H3 e2 S2 hlt y
    have S3 := S2.grow gr
    have hdr : ds.drop i = d :: ds.drop (i + 1) := by
      rw [List.drop_eq_getElem_cons hlt]
      congr 1
      rw [List.getElem?_eq_getElem hlt] at hd
      exact Option.some.inj hd
    rw [hdr] at p2
    dsimp only [loopS] at p2
    refine ⟨h0, g0, M, mm, G3, ρ2, false, d, S3, rx, ?_⟩
    cases ha : asgT t false d ρ2 with
    | none => rw [ha] at p2; exact p2
    | some ρ4 =>
      rw [ha] at p2
      intro G4 σ4 e4 S4 _
      refine ⟨h0, g0, M, mm, G4, ρ4, S4, ?_⟩
      have e24 : Ex G2 G4 := gr.e.trans e4
      dsimp only at p2
      cases hb : body ρ4 with
      | nx ρ5 => rw [hb] at p2; exact fun G5 H5 σ5 e5 S5 => ⟨hlt, G5, ρ5, (e2.trans e24).trans e5, S5, p2.mono (e24.trans e5)⟩
      | ct ρ5 => rw [hb] at p2; exact fun G5 H5 σ5 e5 S5 => ⟨hlt, G5, ρ5, (e2.trans e24).trans e5, S5, p2.mono (e24.trans e5)⟩
      | br ρ5 => rw [hb] at p2; exact fun G5 H5 σ5 e5 S5 => p2 G5 H5 σ5 (e24.trans e5) S5
      | rt fl d ρ5 => rw [hb] at p2; exact fun G5 H5 σ5 v e5 S5 k => p2 G5 H5 σ5 v (e24.trans e5) S5 k
      | ex x ρ5 => rw [hb] at p2; exact p2
      | no => rw [hb] at p2; exact p2
  · have e : i = ds.length := by omega
    subst e
    rw [List.drop_length] at p2
    exact .inl ⟨wd.stop G2 H2 σ2 ρ2 e2 S2, p2 G2 H2 σ2 (Ex.refl _) S2⟩
theorem TbAt.dct {H H' : Hp} {a d : Addr} {o : HO} (t : TbAt H a o) (h : ∀ b, b ≠ d → H' b = H b) (n : ∃ u, H d = some u ∧ Pf.isTb u = false ∧ ∀ φ, u ≠ .ext φ) : TbAt H' a o := by
  obtain ⟨u, hu, n1, n2⟩ := n
  obtain ⟨q, e, ps, h1, h2, h3⟩ := t
  refine ⟨q, e, ps, ?_, h2, fun pos cv hc => ?_⟩
  · rw [h a (fun z => by subst z; rw [hu] at h1; cases h1; cases n1)]; exact h1
  · obtain ⟨c, e', hc'⟩ := h3 pos cv hc
    exact ⟨c, e', by rw [h c (fun z => by subst z; rw [hu] at hc'; cases hc'; exact n2 _ rfl)]; exact hc'⟩
/-- a kept dict is locked: the frame behind it -/
theorem Sim.lock (S : Sim K B G H σ ρ) {d : Addr} {u : HO} {od : Obj} (hG : G d = some u) (hd : isDc u = true) (hH : H' d = some (.frz od u)) (ho : ∀ a, a ≠ d → H' a = H a) (hHd : ∃ o, H d = some o) :
    ∃ h0 g0 M mm, Sim K (bb' B h0 g0 M mm) G H' σ ρ ∧ (∀ G' H2 σ' ρ', Sim K (bb' B h0 g0 M mm) G' H2 σ' ρ' → H2 d = some (.frz od u)) ∧
      ∀ G' H2 σ' ρ' H3, Sim K (bb' B h0 g0 M mm) G' H2 σ' ρ' → (∀ a, a ≠ d → H3 a = H2 a) → H3 d = H d → Sim K B G' H3 σ' ρ' ∧ ∀ fl v x, ValOk K (bb' B h0 g0 M mm) G' H2 σ' ρ' fl v x → ValOk K B G' H3 σ' ρ' fl v x := by
  have nown : ∀ (i : Nat) fl x q, ρ[i]? = some (some (fl, x)) → fl ≠ .fz → σ[i]? = some (some (.ref q)) → q ≠ d := fun i fl x q h n s z => by
    subst z
    obtain ⟨v, e, k⟩ := S.sl i fl x h
    rw [s] at e; cases e
    cases fl with
    | fz => exact n rfl
    | ow => obtain ⟨w, ew, _, hg, _⟩ := k; cases ew; rw [hG] at hg; cases hg
    | bo => obtain ⟨w, ew, _, hg, _⟩ := k; cases ew; rw [hG] at hg; cases hg
  have ow0 : ∀ a, (∃ (i : Nat) (x : D), ρ[i]? = some (some (.ow, x)) ∧ σ[i]? = some (some (.ref a))) → B.H0 a = none := fun a h => S.ow0 h
  have alH : ∀ a, H' a = none → B.H0 a = none := fun a h => by
    by_cases ha : a = d
    · subst ha; rw [hH] at h; cases h
    · exact S.al a (by rw [← ho a ha]; exact h)
  have h00 : ∀ a, here H' σ ρ a = none → B.H0 a = none := fun a h => by
    by_cases z : ∃ (i : Nat) (x : D), ρ[i]? = some (some (.ow, x)) ∧ σ[i]? = some (some (.ref a))
    · exact ow0 a z
    · rw [here_no z] at h; exact alH a h
  have hd0 : here H' σ ρ d = some (.frz od u) := by
    rw [here_no (fun ⟨i, x, h1, h2⟩ => nown i _ x d h1 (by decide) h2 rfl)]; exact hH
  refine ⟨here H' σ ρ, G, fun a => B.M a ∧ a ≠ d, ⟨fun a m z => B.mm a m.1 (h00 a z), S.tbs⟩, ⟨fun a o e => ?_, fun a o h => .inl h, Ex.refl _, fun a o h _ _ => here_some h, fun a h => ?_, S.len, fun i fl x h => ?_, S.dis⟩, fun G' H2 σ' ρ' S2 => S2.fr d _ hd0 rfl (fun m => m.2 rfl), fun G' H2 σ' ρ' H3 S2 h3 h3d => ?_⟩
  · by_cases ha : a = d
    · subst ha; rw [hG] at e; cases e; exact .inr (.inl ⟨hd, od, hH⟩)
    · rcases S.ex a o e with ⟨n, z⟩ | ⟨z, ob, q⟩ | z
      · exact .inl ⟨n, by rw [ho a ha]; exact z⟩
      · exact .inr (.inl ⟨z, ob, by rw [ho a ha]; exact q⟩)
      · exact .inr (.inr (z.dct ho (by
          obtain ⟨x, hx⟩ := hHd
          rcases S.ex d u hG with ⟨_, w⟩ | ⟨_, ob, w⟩ | w
          · exact ⟨_, w, by cases u <;> first | rfl | exact Bool.noConfusion (show false = true from hd), by cases u <;> first | exact Bool.noConfusion (show false = true from hd) | (intro φ y; cases y)⟩
          · exact ⟨_, w, rfl, fun φ y => by cases y⟩
          · rw [show isDc u = false from by obtain ⟨q, e, _⟩ := w; rw [e]; rfl] at hd; cases hd)))
  · cases z : here H' σ ρ a with
    | none => exact z
    | some o => rw [here_some z] at h; cases h
  · obtain ⟨v, e, k⟩ := S.sl i fl x h
    refine ⟨v, e, ?_⟩
    cases fl with
    | fz => exact k
    | ow =>
      obtain ⟨q, ev, ho', hg, _⟩ := k
      exact ⟨q, ev, ho'.mono (Ex.refl _) (ho q (nown i _ x q h (by decide) (by rw [e, ev]))), hg, here_ow h (by rw [e, ev])⟩
    | bo =>
      obtain ⟨q, ev, ho', hg, hm⟩ := k
      have ne := nown i _ x q h (by decide) (by rw [e, ev])
      exact ⟨q, ev, ho'.mono (Ex.refl _) (ho q ne), hg, hm, ne⟩
  · have eG : G' d = some u := S2.g0 d u hG
    have ne : ∀ q, G' q = none → q ≠ d := fun q hq z => by subst z; rw [eG] at hq; cases hq
    refine ⟨⟨fun a o e => ?_, fun a o h => ?_, S.g0.trans S2.g0, fun a o h nt m => ?_, fun a h => ?_, S2.len, fun i fl x h => ?_, S2.dis⟩, fun fl v x k => ?_⟩
    · by_cases ha : a = d
      · subst ha
        rw [eG] at e; cases e
        rcases S.ex a _ hG with ⟨n, z⟩ | ⟨z, ob, q⟩ | z
        · exact .inl ⟨n, by rw [h3d]; exact z⟩
        · exact .inr (.inl ⟨z, ob, by rw [h3d]; exact q⟩)
        · rw [show isDc u = false from by obtain ⟨q, e, _⟩ := z; rw [e]; rfl] at hd; cases hd
      · rcases S2.ex a o e with ⟨n, z⟩ | ⟨z, ob, q⟩ | z
        · exact .inl ⟨n, by rw [h3 a ha]; exact z⟩
        · exact .inr (.inl ⟨z, ob, by rw [h3 a ha]; exact q⟩)
        · exact .inr (.inr (z.dct h3 ⟨_, S2.fr d _ hd0 rfl (fun m => m.2 rfl), rfl, fun φ y => by cases y⟩))
    · rcases S2.new a o h with z | z | z
      · exact S.new a o z
      · exact .inr (.inl (h00 a z))
      · exact .inr (.inr z)
    · by_cases ha : a = d
      · subst ha; rw [h3d]; exact S.fr a o h nt m
      · rw [h3 a ha]
        have hHa := S.fr a o h nt m
        have nz : ¬ ∃ (i : Nat) (x : D), ρ[i]? = some (some (.ow, x)) ∧ σ[i]? = some (some (.ref a)) := fun z => by rw [S.ow0 z] at h; cases h
        exact S2.fr a o (by show here H' σ ρ a = some o; rw [here_no nz, ho a ha]; exact hHa) nt (fun z => m z.1)
    · by_cases ha : a = d
      · subst ha; obtain ⟨o, hh⟩ := hHd; rw [h3d, hh] at h; cases h
      · rw [h3 a ha] at h; exact h00 a (S2.al a h)
    · obtain ⟨v, e, k⟩ := S2.sl i fl x h
      refine ⟨v, e, ?_⟩
      cases fl with
      | fz => exact k
      | ow =>
        obtain ⟨q, ev, ho', hg, h0⟩ := k
        exact ⟨q, ev, ho'.mono (Ex.refl _) (h3 q (ne q hg)), hg, h00 q h0⟩
      | bo =>
        obtain ⟨q, ev, ho', hg, hm⟩ := k
        exact ⟨q, ev, ho'.mono (Ex.refl _) (h3 q (ne q hg)), hg, hm.1⟩
    · cases fl with
      | false => exact k
      | true =>
        obtain ⟨q, ev, ho', hg, h0, nd⟩ := k
        exact ⟨q, ev, ho'.mono (Ex.refl _) (h3 q (ne q hg)), hg, h00 q h0, nd⟩
def keysD : D → Option (List D)
  | .dK kvs => some (kvs.map fun kv => keyD kv.1)
  | .dT kvs => some (kvs.map fun kv => .tup (kv.1.map keyD))
  | _ => none
/-- nothing may leave a walk over a dict -/
def noX : SR → SR
  | .ex _ _ => .no
  | .nx ρ => .nx ρ
  | .rt fl d ρ => .rt fl d ρ
  | .br ρ => .br ρ
  | .ct ρ => .ct ρ
  | .no => .no
theorem PostS.noX_mono {K : PySem.W.Frag} {B : Bs} {G G' : Hp} {Dn : Ends} {r : SR} (e : Ex G G') (h : PostS K B G Dn (noX r)) : PostS K B G' Dn (noX r) := PostS.mono e h
def sForK (t : Tg) (i : Nat) (body : SF) : SF := fun ρ => match ρ[i]? with
  | some (some (.fz, d)) => match keysD d with
    | some ds => noX (loopS t body ds ρ)
    | none => .no
  | some (some (.ow, d)) => match keysD d with
    | some ds => noX (loopS t body ds (ρ.set i (some (.fz, d))))
    | none => .no
  | _ => .no
theorem walkS_T {h0 g0 : Hp} {M : Addr → Prop} {mm : (∀ a, M a → h0 a ≠ none) ∧ MkT B.T g0} {od : Obj} {kvs : List (List Key × D)} {vs : List (List Key × V)} (hk : vs.map (·.1) = kvs.map (·.1)) (hH : ∀ G' H2 σ' ρ', Sim K (bb' B h0 g0 M mm) G' H2 σ' ρ' → H2 p = some (.frz od (.dT vs))) :
    WalkS K (bb' B h0 g0 M mm) G (Itkt p od vs) (kvs.map fun kv => .tup (kv.1.map keyD)) where
  go := fun G1 H1 σ ρ i e S hi => ⟨hH _ _ _ _ S, by
    have : vs.length = kvs.length := by have := congrArg List.length hk; simpa using this
    rw [List.length_map] at hi; omega⟩
  stop := fun G1 H1 σ ρ e S => ⟨hH _ _ _ _ S, by
    have : vs.length = kvs.length := by have := congrArg List.length hk; simpa using this
    rw [List.length_map]; omega⟩
  yld := fun G1 H1 σ ρ i x H2 e S hi y => by
    obtain ⟨rfl, k, w, q, hv, rfl, hq⟩ := y
    have hki : (kvs.map (·.1))[i]? = some k := by rw [← hk, List.getElem?_map, hv]; rfl
    rw [List.getElem?_map] at hki
    obtain ⟨kd, h1, h2⟩ := Option.map_eq_some_iff.mp hki
    have g1 : ∀ u, G1 q = some u → u = .tup (k.map kV) := fun u hu => by
      rcases S.ex q u hu with ⟨_, z⟩ | ⟨_, ob, z⟩ | z
      · rw [hq] at z; exact (Option.some.inj z).symm
      · rw [hq] at z; cases z
      · obtain ⟨ps, z⟩ := z.tbl; rw [hq] at z; cases z
    have ex1 : Ex G1 (upd G1 q (.tup (k.map kV))) := fun a u h => by
      by_cases ha : a = q
      · subst ha; rw [upd_same, g1 u h]
      · rw [upd_ne ha]; exact h
    refine ⟨upd G1 q (.tup (k.map kV)), .tup (k.map keyD), by rw [List.getElem?_map, h1]; simp [h2], ⟨ex1, fun a u h => ?_, fun a u h => ?_, fun a u h _ => h, fun a h => h⟩, q, _, rfl, upd_same, RepL.map fun z => by cases z <;> rfl⟩
    · by_cases ha : a = q
      · subst ha; rw [upd_same] at h; cases h; exact .inl ⟨rfl, hq⟩
      · rw [upd_ne ha] at h; exact S.ex a u h
    · by_cases ha : a = q
      · subst ha; rw [upd_same] at h; cases h; exact .inr (.inr rfl)
      · rw [upd_ne ha] at h; exact .inl h
theorem walkS_K {h0 g0 : Hp} {M : Addr → Prop} {mm : (∀ a, M a → h0 a ≠ none) ∧ MkT B.T g0} {od : Obj} {kvs : List (Key × D)} {vs : List (Key × V)} (hk : vs.map (·.1) = kvs.map (·.1)) (hH : ∀ G' H2 σ' ρ', Sim K (bb' B h0 g0 M mm) G' H2 σ' ρ' → H2 p = some (.frz od (.dK vs))) :
    WalkS K (bb' B h0 g0 M mm) G (Itk p od vs) (kvs.map fun kv => keyD kv.1) where
  go := fun G1 H1 σ ρ i e S hi => ⟨hH _ _ _ _ S, by
    have : vs.length = kvs.length := by have := congrArg List.length hk; simpa using this
    rw [List.length_map] at hi; omega⟩
  stop := fun G1 H1 σ ρ e S => ⟨hH _ _ _ _ S, by
    have : vs.length = kvs.length := by have := congrArg List.length hk; simpa using this
    rw [List.length_map]; omega⟩
  yld := fun G1 H1 σ ρ i x H2 e S hi y => by
    obtain ⟨rfl, k, w, hv, rfl⟩ := y
    have hki : (kvs.map (·.1))[i]? = some k := by rw [← hk, List.getElem?_map, hv]; rfl
    rw [List.getElem?_map] at hki
    obtain ⟨kd, h1, h2⟩ := Option.map_eq_some_iff.mp hki
    exact ⟨G1, keyD k, by rw [List.getElem?_map, h1]; simp [h2], Grow.refl S.ex, by cases k <;> rfl⟩
theorem RepP.keys : ∀ {kvs : List (Key × D)} {vs : List (Key × V)}, RepP K T G kvs vs → vs.map (·.1) = kvs.map (·.1)
  | [], _, h => by cases h; rfl
  | (_, _) :: _, _, ⟨v, r, h1, h2, h3⟩ => by subst h1; rw [List.map_cons, List.map_cons, RepP.keys h3]
/-- what the loop's end gives, behind the lock -/
theorem PostS.lock {h0 g0 : Hp} {M : Addr → Prop} {mm : (∀ a, M a → h0 a ≠ none) ∧ MkT B.T g0} {d : Addr} {Dn' : Ends} {r : SR} (fin : Hp → Hp)
    (back : ∀ G' H2 σ' ρ', Sim K (bb' B h0 g0 M mm) G' H2 σ' ρ' → Sim K B G' (fin H2) σ' ρ' ∧ ∀ fl v x, ValOk K (bb' B h0 g0 M mm) G' H2 σ' ρ' fl v x → ValOk K B G' (fin H2) σ' ρ' fl v x)
    (hn : ∀ G' H2 σ' ρ', Sim K (bb' B h0 g0 M mm) G' H2 σ' ρ' → (Dn.nx σ' (fin H2) → Dn'.nx σ' H2) ∧ (Dn.bk σ' (fin H2) → Dn'.bk σ' H2) ∧ (Dn.ct σ' (fin H2) → Dn'.ct σ' H2) ∧ ∀ v, Dn.rt v (fin H2) → Dn'.rt v H2)
    (q : PostS K B G Dn (noX r)) : PostS K (bb' B h0 g0 M mm) G Dn' r := by
  cases r with
  | nx ρ => exact fun G' H2 σ' e S2 => (hn _ _ _ _ S2).1 (q G' _ σ' e (back _ _ _ _ S2).1)
  | br ρ => exact fun G' H2 σ' e S2 => (hn _ _ _ _ S2).2.1 (q G' _ σ' e (back _ _ _ _ S2).1)
  | ct ρ => exact fun G' H2 σ' e S2 => (hn _ _ _ _ S2).2.2.1 (q G' _ σ' e (back _ _ _ _ S2).1)
  | rt fl x ρ => exact fun G' H2 σ' v e S2 k => (hn _ _ _ _ S2).2.2.2 v (q G' _ σ' v e (back _ _ _ _ S2).1 ((back _ _ _ _ S2).2 _ _ _ k))
  | ex x ρ => exact q.elim
  | no => exact q
def tKeys (K : PySem.W.Frag) (B : Bs) (t : Tg) (i : Nat) (body : SF) : TS := tFor (iKeys (tVar i)) (tGb K B t) (tSb K B body)
theorem forK_fz {t : Tg} {i : Nat} {body : SF} {d : D} {ds : List D} (S : Sim K B G H σ ρ) (hi : ρ[i]? = some (some (.fz, d))) (hk : keysD d = some ds) (q : PostS K B G Dn (noX (loopS t body ds ρ))) :
    tLock (tKeys K B t i body) Dn σ H ∨ tKeys K B t i body Dn σ H := by
  obtain ⟨v, ev, r⟩ := S.sl i _ _ hi
  have key : ∃ p u, v = .ref p ∧ G p = some u ∧ isDc u = true ∧ ∀ od h0 g0 M mm, (∀ G' H2 σ' ρ', Sim K (bb' B h0 g0 M mm) G' H2 σ' ρ' → H2 p = some (.frz od u)) →
      ∃ J, WalkS K (bb' B h0 g0 M mm) G J ds ∧ ∀ σ' H' R, σ'[i]? = some (some (.ref p)) → H' p = some (.frz od u) → R J H' → iKeys (tVar i) σ' H' R := by
    cases d with
    | dK kvs =>
      cases hk
      obtain ⟨p, vs, e, hg, rr⟩ := r
      exact ⟨p, _, e, hg, rfl, fun od h0 g0 M mm hH => ⟨_, walkS_K rr.keys hH, fun σ' H' R hs hh hr => ⟨.ref p, hs, p, od, rfl, .inl ⟨vs, hh, hr⟩⟩⟩⟩
    | dT kvs =>
      cases hk
      obtain ⟨p, vs, e, hg, rr⟩ := r
      exact ⟨p, _, e, hg, rfl, fun od h0 g0 M mm hH => ⟨_, walkS_T rr.keys hH, fun σ' H' R hs hh hr => ⟨.ref p, hs, p, od, rfl, .inr ⟨vs, hh, hr⟩⟩⟩⟩
    | _ => cases hk
  obtain ⟨p, u, e, hg, hd, wk⟩ := key
  subst e
  rcases S.ex p u hg with ⟨_, hp⟩ | ⟨_, od, hp⟩ | z
  · refine .inl ⟨p, u, hp, ?_, fun od => ?_⟩
    · cases u <;> first | exact True.intro | exact Bool.noConfusion (show false = true from hd)
    · obtain ⟨h0, g0, M, mm, S1, hH, back⟩ := S.lock (H' := upd H p (.frz od u)) hg hd upd_same (fun a ha => upd_ne ha) ⟨u, hp⟩
      obtain ⟨J, wd, hit⟩ := wk od h0 g0 M mm hH
      have bk : ∀ G' H2 σ' ρ', Sim K (bb' B h0 g0 M mm) G' H2 σ' ρ' → Sim K B G' (upd H2 p u) σ' ρ' ∧ ∀ fl v x, ValOk K (bb' B h0 g0 M mm) G' H2 σ' ρ' fl v x → ValOk K B G' (upd H2 p u) σ' ρ' fl v x :=
        fun G' H2 σ' ρ' S2 => back G' H2 σ' ρ' _ S2 (fun a ha => upd_ne ha) (by rw [upd_same, hp])
      have c := for_core (Dn := ⟨fun σ' H' => H' p = some (.frz od u) ∧ Dn.nx σ' (upd H' p u), fun v H' => H' p = some (.frz od u) ∧ Dn.rt v (upd H' p u), fun σ' H' => H' p = some (.frz od u) ∧ Dn.bk σ' (upd H' p u), fun σ' H' => H' p = some (.frz od u) ∧ Dn.ct σ' (upd H' p u)⟩) wd S1
        (PostS.lock (d := p) (fun H2 => upd H2 p u) bk (fun G' H2 σ' ρ' S2 => ⟨fun z => ⟨hH _ _ _ _ S2, z⟩, fun z => ⟨hH _ _ _ _ S2, z⟩, fun z => ⟨hH _ _ _ _ S2, z⟩, fun v z => ⟨hH _ _ _ _ S2, z⟩⟩) q)
      unfold tKeys tFor
      refine hit σ _ _ ev upd_same ?_
      exact c.2.2
  · obtain ⟨h0, g0, M, mm, S1, hH, back⟩ := S.lock (H' := H) hg hd hp (fun a ha => rfl) ⟨_, hp⟩
    obtain ⟨J, wd, hit⟩ := wk od h0 g0 M mm hH
    have bk : ∀ G' H2 σ' ρ', Sim K (bb' B h0 g0 M mm) G' H2 σ' ρ' → Sim K B G' H2 σ' ρ' ∧ ∀ fl v x, ValOk K (bb' B h0 g0 M mm) G' H2 σ' ρ' fl v x → ValOk K B G' H2 σ' ρ' fl v x :=
      fun G' H2 σ' ρ' S2 => back G' H2 σ' ρ' _ S2 (fun a ha => rfl) (by rw [hH _ _ _ _ S2, hp])
    have c := for_core (Dn := Dn) wd S1 (PostS.lock (d := p) (fun H2 => H2) bk (fun G' H2 σ' ρ' S2 => ⟨fun z => z, fun z => z, fun z => z, fun v z => z⟩) q)
    refine .inr ?_
    unfold tKeys tFor
    refine hit σ _ _ ev hp ?_
    exact c.2.2
  · rw [show isDc u = false from by obtain ⟨q, e, _⟩ := z; rw [e]; rfl] at hd; cases hd
theorem ps_foK {body : List Stmt} {t : Tg} {i : Nat} {f : SF} {pos} (hp : PassesOwn (model X.prog X.w) X.A X.env X.xe) (hc : X.calm = true) (hi : PE X iter (tVar i)) (hg : ∀ h0 g0 M mm, PG X tg (tG X.K (bb' B h0 g0 M mm) t)) (hb : ∀ h0 g0 M mm, PSs X body (tS X.K (bb' B h0 g0 M mm) f))
    (hs : ∀ x, foldedSetIterable iter X.env x = pure x := by intro _; rfl) : PS X (.For tg iter body [] pos) (tS X.K B (sForK t i f)) := by
  have h1 : PS X (.For tg iter body [] pos) (tKeys X.K B t i f) := ps_for hp hc (pi_keys hi) (pg_b hg) (pss_b hb) hs
  refine PS.imp (PS.or (ps_lock h1) h1) fun D σ H ⟨G, ρ, S, q⟩ => ?_
  dsimp only [sForK] at q
  split at q
  · rename_i d hd
    split at q
    · rename_i ds hk
      exact forK_fz S hd hk q
    · exact q.elim
  · rename_i d hd
    split at q
    · rename_i ds hk
      obtain ⟨G', v, e, _, S', _⟩ := S.freeze hd
      exact forK_fz S' (List.getElem?_set_self (List.getElem?_eq_some_iff.mp hd).1) hk (q.mono e)
    · exact q.elim
  · exact q.elim
end
end Pf
/-! part Pf15 -/
set_option Elab.async false
set_option linter.all false
set_option maxRecDepth 100000
set_option maxHeartbeats 1000000
/-! Pf15: {k: v} with a tuple for the key. -/
namespace Pf
open PySem PySem.Spec PyProof.Rows L2
section
variable {X : Cx} {B : Bs} {K : PySem.W.Frag} {T : Tab} {G G' H H' : Hp} {σ σ' : L2.St} {ρ ρ' : Ve} {Q : VK} {v : V} {e tg iter : Expr} {es : List Expr} {p : Addr} {Dn : Ends} {f : Str} {st : Stmt}
/-- an object that is made: it stands at p, is no slot's -/
structure MkO (K : PySem.W.Frag) (B : Bs) (G H : Hp) (σ : L2.St) (ρ : Ve) (p : Addr) (o : HO) : Prop where
  s : Sim K B G H σ ρ
  h : H p = some o
  g : G p = none
  z : B.H0 p = none
  n : NoSl σ ρ p
  t : isTp o = false
  k : isTb o = false ∧ ∀ φ, o ≠ .ext φ
theorem MkO.okp {o : HO} (m : MkO K B G H σ ρ p o) : Okp H p := .inr ⟨_, m.h, m.k.1, m.k.2⟩
theorem MkO.step {o : HO} (m : MkO K B G H σ ρ p o) (S' : Sim K m.s.fr' G' H' σ' ρ') : MkO K B G' H' σ' ρ' p o := by
  have nz : ¬ ∃ (i : Nat) (d : D), ρ[i]? = some (some (.ow, d)) ∧ σ[i]? = some (some (.ref p)) := fun ⟨i, d, h1, h2⟩ => m.n i _ _ h1 (by decide) h2
  have hp : here H σ ρ p = some o := by rw [here_no nz]; exact m.h
  have nM : ¬ B.M p := fun z => B.mm p z m.z
  refine ⟨m.s.unframe S', S'.fr p _ hp m.k.1 nM, ?_, m.z, fun j f1 d1 hj n1 sj => ?_, m.t, m.k⟩
  · cases q : G' p with
    | none => rfl
    | some o' =>
      rcases S'.new p o' q with z | z | z
      · have z : G p = some o' := z
        rw [m.g] at z; cases z
      · have z : here H σ ρ p = none := z
        rw [hp] at z; cases z
      · exact (tp_no S'.ex q z (S'.fr p _ hp m.k.1 nM) m.t).elim
  · obtain ⟨v, e, k⟩ := S'.sl j f1 d1 hj
    rw [sj] at e; cases e
    cases f1 with
    | fz => exact n1 rfl
    | ow => obtain ⟨q, ev, _, _, h0⟩ := k; cases ev; have h0 : here H σ ρ p = none := h0; rw [hp] at h0; cases h0
    | bo => obtain ⟨q, ev, _, _, h0⟩ := k; cases ev; exact nM h0
theorem Sim.nos (S : Sim K B G H σ ρ) (hp : H p = none) : NoSl σ ρ p := fun j f1 d1 hj n1 sj => by
  obtain ⟨v, ev, k⟩ := S.sl j f1 d1 hj
  rw [sj] at ev; cases ev
  cases f1 with
  | fz => exact n1 rfl
  | ow => obtain ⟨w, ew, how, _⟩ := k; cases ew; obtain ⟨o, h⟩ := how.has; rw [hp] at h; cases h
  | bo => obtain ⟨w, ew, how, _⟩ := k; cases ew; obtain ⟨o, h⟩ := how.has; rw [hp] at h; cases h
theorem MkO.mk' {o : HO} (S : Sim K B G H σ ρ) (hp : H p = none) (t : isTp o = false) (k : isTb o = false ∧ ∀ φ, o ≠ .ext φ) : MkO K B G (upd H p o) σ ρ p o := ⟨S.poke (.inl hp) (S.ex.ne hp) (S.al p hp) (S.nos hp), upd_same, S.ex.ne hp, S.al p hp, S.nos hp, t, k⟩
def ksD : D → Option (List Key)
  | .tup ds => ksOf ds
  | _ => none
def fDisp1 (k w : EF) : EF := fun ρ => match k ρ with
  | .ok _ dk ρ1 => match w ρ1 with
    | .ok _ dv ρ2 => match ksD dk with
      | some ks => .ok true (.dT [(ks, dv)]) ρ2
      | none => .no
    | .ex _ _ => .no
    | .no => .no
  | .ex _ _ => .no
  | .no => .no
theorem pe_di1 (hu : X.A.units + 1 < cLine) {ke ve : Expr} {k w : EF} {pos : Pos} (hk : ∀ h0 g0 mm, PE X ke (tF X.K (bb B h0 g0 mm) k)) (hv : ∀ h0 g0 mm, PE X ve (tF X.K (bb B h0 g0 mm) w)) : PE X (.Dict [some ke] [ve] pos) (tF X.K B (fDisp1 k w)) :=
  PE.imp (pe_disp1T hu (pe_a hk) (pe_a hv)) fun σ H Q ⟨G, ρ, S, q⟩ p hp => by
    have m := MkO.mk' (o := .dT []) S hp rfl ⟨rfl, fun _ z => by cases z⟩
    refine ⟨_, _, m.s.mmH, G, ρ, m.s.frame, PostZ.toE ?_⟩
    dsimp only [fDisp1] at q
    cases h1 : k ρ with
    | ex x ρ1 => rw [h1] at q; exact q
    | no => rw [h1] at q; exact q
    | ok fl dk ρ1 =>
      rw [h1] at q
      intro G1 H1 y e1 S1 ry
      have m1 := m.step S1
      refine ⟨_, _, m1.s.mmH, G1, ρ1, m1.s.frame, PostZ.toE ?_⟩
      dsimp only at q
      cases h2 : w ρ1 with
      | ex x ρ2 => rw [h2] at q; exact q
      | no => rw [h2] at q; exact q
      | ok fl dv ρ2 =>
        rw [h2] at q
        intro G2 H2 z e2 S2 rz
        have m2 := m1.step S2
        dsimp only at q
        cases h3 : ksD dk with
        | none => rw [h3] at q; exact q.elim
        | some ks =>
          rw [h3] at q
          cases dk with
          | tup ds =>
            obtain ⟨b, vs, eb, hb, r⟩ := ry
            have hb2 := m2.s.ex.at (e2 b _ hb) rfl
            rw [ksOf_rel h3 r] at hb2
            exact ⟨m2.h, ks, b, eb, hb2, q G2 _ _ (e1.trans e2) (m2.s.poke m2.okp m2.g m2.z m2.n) ⟨p, rfl, ⟨_, upd_same, z, [], rfl, rz, rfl⟩, m2.g, m2.z, m2.n⟩⟩
          | _ => cases h3
end
end Pf
/-! part Pf16 -/
set_option Elab.async false
set_option linter.all false
set_option maxRecDepth 100000
set_option maxHeartbeats 1000000
/-! Pf16: the head: facts by names. -/
namespace Pf
open PySem PySem.Spec PyProof.Rows L2
/-! ### facts -/
/-- a class by its name, a type -/
inductive Cz where
  | b (n : String) | o (x : Str)
def Cz.v (K : PySem.W.Frag) : Cz → Value
  | .b n => .type n
  | .o x => .ref (He.ga K x)
def pAt (K : PySem.W.Frag) (x f : Str) : Addr := match PySem.W.findIn K (.ref (He.ga K x)) f with
  | some (some (.ref p)) => p
  | _ => 0
def gAt (K : PySem.W.Frag) (x f : Str) : Addr := match PySem.W.recIn K (pAt K x f) "property" with
  | some (.ref g :: _) => g
  | _ => 0
inductive Fx where
  | bui (x : Str) (id : String)
  | prop (x f : Str)
  | isa (x : Str)
  | one (t c : Cz) (b : Bool)
def isRec (K : PySem.W.Frag) (p g : Addr) : Bool := match PySem.W.recIn K p "property" with
  | some (.ref g' :: _) => decide (g' = g)
  | _ => false
def Fx.ok (K : PySem.W.Frag) : Fx → Bool
  | .bui x id => He.eqO (PySem.W.nsIn K mainGlobals x) (some (some (.builtin id)))
  | .prop x f => He.eqO (PySem.W.findIn K (.ref (He.ga K x)) f) (some (some (.ref (pAt K x f)))) && (He.eqO (PySem.W.specialIn K (.ref (pAt K x f)) "__get__") (some (some (.builtin "property.__get__"))) &&
    (decide (PySem.W.takesIn K (.ref (pAt K x f)) = some true) && isRec K (pAt K x f) (gAt K x f)))
  | .isa x => He.eqO (PySem.W.findIn K (.ref (He.ga K x)) "__class__") (some (some (.builtin "object.__class__"))) && (He.eqO (PySem.W.specialIn K (.builtin "object.__class__") "__get__") (some (some (.builtin "getset_descriptor.__get__"))) &&
    (decide (PySem.W.takesIn K (.builtin "object.__class__") = some true) && decide (PySem.W.mroIn K (He.ga K x) (.type "object") = some true)))
  | .one t c b => decide (PySem.W.kitOne K (t.v K) (c.v K) = some b)
section
variable {K : PySem.W.Frag} {h : Heap} {mg : Str → Option Value}
theorem bui_ok (X : K.In h) (G : h.Ns mainGlobals mg) {x : Str} {id : String} (c : (Fx.bui x id).ok K = true) : mg x = some (.builtin id) := PySem.W.mg_of X G (He.eqO_ok c)
theorem prop_ok {x f : Str} (c : (Fx.prop x f).ok K = true) : PropOf K (He.ga K x) f (pAt K x f) (gAt K x f) := by
  obtain ⟨c1, c⟩ := He.ba c
  obtain ⟨c2, c⟩ := He.ba c
  obtain ⟨c3, c4⟩ := He.ba c
  refine ⟨He.eqO_ok c1, He.eqO_ok c2, of_decide_eq_true c3, ?_⟩
  unfold isRec at c4
  split at c4
  · rename_i g' r e
    have := of_decide_eq_true c4
    subst this
    exact ⟨r, e⟩
  · cases c4
theorem isa_ok {x : Str} (cl : Cls K (He.ga K x)) (c : (Fx.isa x).ok K = true) : ClsIs K (He.ga K x) := by
  obtain ⟨c1, c⟩ := He.ba c
  obtain ⟨c2, c⟩ := He.ba c
  obtain ⟨c3, c4⟩ := He.ba c
  exact ⟨cl, He.eqO_ok c1, He.eqO_ok c2, of_decide_eq_true c3, of_decide_eq_true c4⟩
theorem one_ok {t c : Cz} {b : Bool} (h : (Fx.one t c b).ok K = true) : PySem.W.kitOne K (t.v K) (c.v K) = some b := of_decide_eq_true h
end
/-! ### the Hook -/
abbrev DefA : Type := He5.DefA
def obsP (fa : List He.Fa) (fx : List Fx) (fn : List DefA) (K : PySem.W.Frag) : He.AlD := ((fa.all fun f => f.ok K) && ((fx.all fun f => f.ok K) && fn.all fun d => d.ok K), fn.map fun d => He5.fnA K (d.at_ K))
def valP (fn : List DefA) : He.AlD := (true, fn.map He5.DefA.val)
def SaysP (fa : List He.Fa) (fx : List Fx) (fn : List DefA) (K : PySem.W.Frag) : Prop := obsP fa fx fn K = valP fn
def obsPG (n : Nat) (fa : List He.Fa) (fx : List Fx) (fn : List DefA) (g : Addr → Option Obj) : He.AlD := obsP fa fx fn (He.frG g (He.asD g n))
def hookP (n : Nat) (fa : List He.Fa) (fx : List Fx) (fn : List DefA) : PySem.W.Hook where
  α := He.AlD
  obs := fun s => obsPG n fa fx fn s.heap.get?
  val := fun _ => valP fn
  says := fun _ h => ∃ K : PySem.W.Frag, K.In h ∧ SaysP fa fx fn K
  of := fun _ _ e => ⟨_, He.frG_in, e⟩
  keeps := fun _ _ _ ⟨K, hK, c⟩ k => ⟨K, PySem.W.Frag.In.keeps hK k, c⟩
theorem obsPG_eq {n : Nat} {fa : List He.Fa} {fx : List Fx} {fn : List DefA} {g : Addr → Option Obj} {s : Shared} (h : ∀ a, g a = s.heap.get? a) : obsPG n fa fx fn g = (hookP n fa fx fn).obs s := by
  have e : g = s.heap.get? := funext h
  rw [e] <;> rfl
section
variable {fa : List He.Fa} {fx : List Fx} {fn : List DefA} {K : PySem.W.Frag}
theorem SaysP.fact (c : SaysP fa fx fn K) (i : Nat) {f : He.Fa} (h : fa[i]? = some f := by rfl) : f.ok K = true := by
  have c1 := (He.ba (show ((fa.all fun f => f.ok K) && ((fx.all fun f => f.ok K) && fn.all fun d => d.ok K)) = true from congrArg (fun z : He.AlD => z.1) c)).1
  exact List.all_eq_true.mp c1 f (List.mem_of_getElem? h)
theorem SaysP.fact2 (c : SaysP fa fx fn K) (i : Nat) {f : Fx} (h : fx[i]? = some f := by rfl) : f.ok K = true := by
  have c1 := (He.ba (He.ba (show ((fa.all fun f => f.ok K) && ((fx.all fun f => f.ok K) && fn.all fun d => d.ok K)) = true from congrArg (fun z : He.AlD => z.1) c)).2).1
  exact List.all_eq_true.mp c1 f (List.mem_of_getElem? h)
theorem SaysP.def_ (c : SaysP fa fx fn K) (i : Nat) {d : DefA} (h : fn[i]? = some d := by rfl) : ∃ fd, FunD K d.name d.qual d.params d.body d.scope (d.dvs K) (d.kws K) (d.at_ K) fd := by
  have c2 := (He.ba (He.ba (show ((fa.all fun f => f.ok K) && ((fx.all fun f => f.ok K) && fn.all fun d => d.ok K)) = true from congrArg (fun z : He.AlD => z.1) c)).2).2
  have e : fn.map (fun d => He5.fnA K (d.at_ K)) = fn.map He5.DefA.val := congrArg (fun z : He.AlD => z.2) c
  have e2 : (fn.map fun d => He5.fnA K (d.at_ K))[i]? = (fn.map He5.DefA.val)[i]? := by rw [e]
  rw [List.getElem?_map, List.getElem?_map, h] at e2
  exact He5.DefA.funD (Option.some.inj e2) (List.all_eq_true.mp c2 d (List.mem_of_getElem? h))
end
end Pf
/-! part Pf17 -/
set_option Elab.async false
set_option linter.all false
set_option maxRecDepth 100000
set_option maxHeartbeats 1000000
/-! Pf17: glue for printed walks. -/
namespace Pf
open PySem PySem.Spec PyProof.Rows L2
section
variable {X : Cx} {B : Bs} {K : PySem.W.Frag} {T : Tab} {G G' H H' : Hp} {σ σ' : L2.St} {ρ ρ' : Ve} {Q : VK} {v : V} {e tg iter : Expr} {es : List Expr} {p : Addr} {Dn : Ends} {f : Str} {st : Stmt}
def eNo : EF := fun _ => .no
def tNv : TFn := fun _ => .no
def iNo : ITf := fun _ => .no
theorem pe_nv : PE X e (tF X.K B eNo) := ⟨fun _ _ _ _ _ _ ⟨_, _, _, q⟩ => q.elim⟩
theorem pt_nv : PT X e (tT X.K B tNv) := ⟨fun _ _ _ _ _ _ ⟨_, _, _, q⟩ => q.elim⟩
theorem pi_nv : PI X tg iter (tI X.K B iNo) := ⟨fun _ _ _ _ _ _ ⟨_, _, _, q⟩ => q.elim⟩
theorem hu1 {k : Nat} {A : Around} (h : Room k A) : A.units + 1 < cLine := by have := h.un; omega
theorem hu64 {k : Nat} {A : Around} (h : Room k A) : A.units + 64 < cLine := by have := h.un; omega
theorem hu65 {k : Nat} {A : Around} (h : Room k A) : A.units + 65 < cLine := by have := h.un; omega
theorem pgn (i : Nat) {x : Str} {pos : Pos} (hN : X.N.Nodup) (hi : X.N[i]? = some x := by rfl) (hx : Loc X.env.scope x := by first | exact Or.inl rfl | exact Or.inr rfl) (hf : X.fn x = true ∨ X.env.scope.names.lookup x = some .local := by first | exact .inl rfl | exact .inr rfl) :
    PG X (.Name x pos) (tG X.K B (.n i)) := pg_n (pg_name hN hi hx hf)
/-! a comprehension's names -/
def blkB (N : List Str) (sc scope : Scope) (own : List (Str × Nat)) : Bool :=
  decide (scope.kind = .function) && (scope.names.all fun y => decide (scope.names.lookup y.1 = some y.2)) && (own.all fun p => decide (N[p.2]? = some p.1)) &&
  (scope.names.all fun y => decide (y.2 = .free → sc.names.lookup y.1 = some .cell ∨ sc.names.lookup y.1 = some .free)) &&
  (scope.names.all fun y => decide (y.2 = .local ∨ y.2 = .cell → y.1 ∈ own.map (·.1) ∨ y.1 ∉ N))
theorem blk_of {N : List Str} {sc scope : Scope} {own : List (Str × Nat)} (h : blkB N sc scope own = true) : BlkOk N sc scope own := by
  unfold blkB at h
  rw [Bool.and_eq_true, Bool.and_eq_true, Bool.and_eq_true, Bool.and_eq_true] at h
  obtain ⟨⟨⟨⟨h1, h2⟩, h3⟩, h4⟩, h5⟩ := h
  exact ⟨of_decide_eq_true h1, fun y hy => of_decide_eq_true (List.all_eq_true.mp h2 y hy), fun p hp => of_decide_eq_true (List.all_eq_true.mp h3 p hp),
    fun y hy => of_decide_eq_true (List.all_eq_true.mp h4 y hy), fun y hy => of_decide_eq_true (List.all_eq_true.mp h5 y hy)⟩
/-! targets lie within the comprehension's names -/
mutual
def innB (vs : List Nat) : Tg → Bool
  | .n j => decide (j ∈ vs)
  | .t l => innBs vs l
def innBs (vs : List Nat) : List Tg → Bool
  | [] => true
  | a :: l => innB vs a && innBs vs l
end
mutual
theorem innB_ok {vs : List Nat} : ∀ (t : Tg), innB vs t = true → ∀ k, t.at k → k ∈ vs
  | .n j, h, k, e => by
    have e : k = j := e
    subst e; exact of_decide_eq_true h
  | .t l, h, k, e => innBs_ok l h k e
theorem innBs_ok {vs : List Nat} : ∀ (l : List Tg), innBs vs l = true → ∀ k, Tg.ats l k → k ∈ vs
  | [], _, _, e => e.elim
  | a :: l, h, k, e => by
    have h : (innB vs a && innBs vs l) = true := h
    rw [Bool.and_eq_true] at h
    rcases e with e | e
    · exact innB_ok a h.1 k e
    · exact innBs_ok l h.2 k e
end
theorem inn_of {vs : List Nat} {t : Tg} (h : innB vs t = true) : t.inn vs := innB_ok t h
theorem sub_of {vs vs1 : List Nat} (h : vs1.all (fun i => decide (i ∈ vs)) = true) : ∀ i ∈ vs1, i ∈ vs := fun i hi => of_decide_eq_true (List.all_eq_true.mp h i hi)
/-! operators told apart by nothing but the node -/
theorem ch_ll {a b c : Expr} {oa ob oc : Opd} {pos} (ha : PE X a (tO X.K B oa)) (hb : PE X b (tO X.K B ob)) (hc : PE X c (tO X.K B oc)) (hm : lastMarks [.LtE, .Lt] [b, c] = false := by with_unfolding_all rfl) :
    PE X (.Compare a [.LtE, .Lt] [b, c] pos) (tF X.K B (fChain (fun i j => decide (i ≤ j)) (fun i j => decide (i < j)) oa ob oc)) := pe_ch op_le op_lt ha hb hc hm
theorem ch_le {a b c : Expr} {oa ob oc : Opd} {pos} (ha : PE X a (tO X.K B oa)) (hb : PE X b (tO X.K B ob)) (hc : PE X c (tO X.K B oc)) (hm : lastMarks [.LtE, .LtE] [b, c] = false := by with_unfolding_all rfl) :
    PE X (.Compare a [.LtE, .LtE] [b, c] pos) (tF X.K B (fChain (fun i j => decide (i ≤ j)) (fun i j => decide (i ≤ j)) oa ob oc)) := pe_ch op_le op_le ha hb hc hm
theorem ch_lt {a b c : Expr} {oa ob oc : Opd} {pos} (ha : PE X a (tO X.K B oa)) (hb : PE X b (tO X.K B ob)) (hc : PE X c (tO X.K B oc)) (hm : lastMarks [.Lt, .Lt] [b, c] = false := by with_unfolding_all rfl) :
    PE X (.Compare a [.Lt, .Lt] [b, c] pos) (tF X.K B (fChain (fun i j => decide (i < j)) (fun i j => decide (i < j)) oa ob oc)) := pe_ch op_lt op_lt ha hb hc hm
theorem ch_tl {a b c : Expr} {oa ob oc : Opd} {pos} (ha : PE X a (tO X.K B oa)) (hb : PE X b (tO X.K B ob)) (hc : PE X c (tO X.K B oc)) (hm : lastMarks [.Lt, .LtE] [b, c] = false := by with_unfolding_all rfl) :
    PE X (.Compare a [.Lt, .LtE] [b, c] pos) (tF X.K B (fChain (fun i j => decide (i < j)) (fun i j => decide (i ≤ j)) oa ob oc)) := pe_ch op_lt op_le ha hb hc hm
/-! a module's constant -/
theorem pe_gI {x : Str} {i : Int} {pos : Pos} (hg : Gl X x) (hm : ∃ t, X.mg x = some (.int i t)) (hd : (x == ("__debug__" : Str)) = false := by decide) : PE X (.Name x pos) (tF X.K B (eC (.int i))) := by
  obtain ⟨t, h⟩ := hm
  exact pe_eC (pe_glob hg h (v := .int i) ⟨t, rfl⟩ hd) rfl
theorem pe_gS {x z : Str} {pos : Pos} (hg : Gl X x) (hm : ∃ t, X.mg x = some (.str z t)) (hd : (x == ("__debug__" : Str)) = false := by decide) : PE X (.Name x pos) (tF X.K B (eC (.str z))) := by
  obtain ⟨t, h⟩ := hm
  exact pe_eC (pe_glob hg h (v := .str z) ⟨t, rfl⟩ hd) rfl
/-! builtins by name -/
theorem boot_list' : bootBuiltins "list" = some (.type "list") := by rfl
theorem boot_tuple' : bootBuiltins "tuple" = some (.type "tuple") := by rfl
theorem boot_dict' : bootBuiltins "dict" = some (.type "dict") := by rfl
theorem boot_int' : bootBuiltins "int" = some (.type "int") := by rfl
theorem boot_str' : bootBuiltins "str" = some (.type "str") := by rfl
theorem boot_bool' : bootBuiltins "bool" = some (.type "bool") := by rfl
theorem boot_sum' : bootBuiltins "sum" = some (.builtin "sum") := by rfl
theorem boot_min' : bootBuiltins "min" = some (.builtin "min") := by rfl
theorem boot_max' : bootBuiltins "max" = some (.builtin "max") := by rfl
theorem boot_abs' : bootBuiltins "abs" = some (.builtin "abs") := by rfl
theorem pe_ty' {x : Str} {T : String} {pos : Pos} (hg : Gl X x) (hm : X.mg x = none) (hv : bootBuiltins x = some (.type T)) (hn : x ≠ "__name__" := by decide) (hdb : (x == ("__debug__" : Str)) = false := by decide) : PE X (.Name x pos) (tC (.ty T)) :=
  ⟨fun pins s σ H Q I h => ld_blt I hg hm hv ⟨.ty T, H, I, rfl, h⟩ hn hdb⟩
theorem pe_cl' {x : Str} {C : Addr} {pos : Pos} (hg : Gl X x) (hm : X.mg x = some (.ref C)) (hd : (x == ("__debug__" : Str)) = false := by decide) : PE X (.Name x pos) (tC (.ref C)) := pe_glob hg hm (v := .ref C) rfl hd
/-- keywords of a def without defaults -/
theorem kbn_of {K : PySem.W.Frag} {x qual : Str} {params : Arguments} {body : List Stmt} {scope : Scope} {kws : List (Str × V)} {f : Addr} {fd : FuncData} {ps : List Str} (F : FunD K x qual params body scope [] kws f fd) {n : Nat} {ks : List Str}
    (h : ∀ (kV doc pm : Value) (an : Option Addr) (cdv ct : Value) (us ws : List Value), us.length = n → ws.length = ks.length → bindArgs (PySem.W.fnOf x qual params body scope .none kV doc pm an cdv ct) ⟨us, ks.zip ws⟩ = pure (ps.zip (us ++ ws))) :
    KBn K fd ps n ks (fun us ws => us ++ ws) (fun vs zs => vs ++ zs) := by
  obtain ⟨oc, od, dV, kV, doc, pm, an, cdv, ct, osl, rfl, lk, hcd, hD, hK⟩ := F.ex
  rcases hD with ⟨_, rfl⟩ | ⟨e, _⟩
  · exact ⟨fun s us ws _ h1 h2 => .of_eq (h kV doc pm an cdv ct us ws h1 h2), fun r1 r2 => r1.append r2⟩
  · exact absurd rfl e
theorem kp_of {K : PySem.W.Frag} {x qual : Str} {params : Arguments} {body : List Stmt} {scope : Scope} {dvs : List V} {kws : List (Str × V)} {f : Addr} (h : ∃ fd, FunD K x qual params body scope dvs kws f fd) : PySem.W.keepIn K (.ref f) = true := by
  obtain ⟨fd, F⟩ := h
  exact F.kp
/-- a getter -/
def Gok (P : Program) (w : World) (K : PySem.W.Frag) (mg : Str → Option Value) (base : Heap) (T : Tab) (k : Nat) (g : Addr) (m : FM) : Prop := ∃ fd ps, FnOk P w K mg base (L2N.CX P w) k g fd ps (spF K T 1 m) ∧ Binds K fd ps []
theorem pe_pr2 {k c : Nat} {pa g : Addr} {m : FM} {f : EF} {o : Expr} {nm : Str} {pos : Pos} (he : PE X o (tF X.K B f)) (cl : Cls X.K (B.T.C c)) (hp : PropOf X.K (B.T.C c) nm pa g) (F : Gok X.prog X.w X.K X.mg X.base B.T k g m) (hr : Room (k + 1) X.A)
    (hab : attributeBase o nm X.env (eval o X.env) = eval o X.env := by rfl) (hnm : ixF nm (B.T.L c) = none := by rfl) : PE X (.Attribute o nm pos) (tF X.K B (fPrp c m f)) := by
  obtain ⟨fd, ps, F, hb⟩ := F
  exact pe_pr he cl hp F hb hr hab hnm
/-! answers of isinstance by a table -/
def isaOf (l : List (Cn × Cn × Bool)) : Isa := fun t c => (l.find? fun x => decide (x.1 = t) && decide (x.2.1 = c)).map (·.2.2)
theorem isa_of {K : PySem.W.Frag} {T : Tab} {l : List (Cn × Cn × Bool)} (h : ∀ x ∈ l, PySem.W.kitOne K (cnV T x.1) (cnV T x.2.1) = some x.2.2) (hc : ∀ k c b, (Cn.o k, c, b) ∈ l → ClsIs K (T.C k)) : IsaOk K T (isaOf l) := by
  have key : ∀ t c b, isaOf l t c = some b → (t, c, b) ∈ l := fun t c b e => by
    unfold isaOf at e
    obtain ⟨x, h1, h2⟩ := Option.map_eq_some_iff.mp e
    have h3 := List.find?_some h1
    rw [Bool.and_eq_true, decide_eq_true_eq, decide_eq_true_eq] at h3
    obtain ⟨a, b', c'⟩ := x
    obtain ⟨e1, e2⟩ := h3
    have e1 : a = t := e1
    have e2 : b' = c := e2
    have h2 : c' = b := h2
    subst e1 e2 h2
    exact List.mem_of_find?_eq_some h1
  exact ⟨fun t c b e => h _ (key t c b e), fun k c b e => hc k c b (key _ _ _ e)⟩
end
end Pf
namespace Pf
open PySem L2
theorem fld_of {K : PySem.W.Frag} {T : Tab} {f : Str} {l : List (Nat × Nat)} (h : ∀ x ∈ l, ixF f (T.L x.1) = some x.2 ∧ Cls K (T.C x.1) ∧ NoAttr K (T.C x.1) f ∧ (T.L x.1).length < 1000) : FldOk K T f l := by
  have mem : ∀ (l : List (Nat × Nat)) c i, l.lookup c = some i → (c, i) ∈ l := by
    intro l
    induction l with
    | nil => intro c i e; cases e
    | cons p l ih =>
      intro c i e
      obtain ⟨a, b⟩ := p
      rw [List.lookup_cons] at e
      split at e
      · rename_i q
        cases e
        rw [eq_of_beq q]; exact List.mem_cons_self
      · exact List.mem_cons_of_mem _ (ih c i e)
  exact ⟨fun c i e => h (c, i) (mem l c i e)⟩
end Pf
/-! part Pf18 -/
set_option Elab.async false
set_option linter.all false
set_option maxRecDepth 100000
set_option maxHeartbeats 1000000
/-! Pf18: comparisons as tests. -/
namespace Pf
open PySem PySem.Spec PyProof.Rows L2
theorem takes_no {X : Cx} : L2N.Takes X (fun _ _ _ _ => False) := fun _ _ x => by
  obtain ⟨_, _, _, _, _, _, _, _, _, _, _, _, _, _, _, _, z⟩ := x
  exact z.elim
instance xok_bb {X : Cx} {B : Bs} {h0 g0 : Hp} {mm} : XOk X (bb B h0 g0 mm) := ⟨⟨_, takes_no, fun _ _ _ _ _ _ _ _ h _ => (show False from h).elim⟩⟩
instance xok_bb' {X : Cx} {B : Bs} {h0 g0 : Hp} {M} {mm} : XOk X (bb' B h0 g0 M mm) := ⟨⟨_, takes_no, fun _ _ _ _ _ _ _ _ h _ => (show False from h).elim⟩⟩
section
variable {X : Cx} {B : Bs} {K : PySem.W.Frag} {T : Tab} {G G' H H' : Hp} {σ σ' : L2.St} {ρ ρ' : Ve} {Q : VK} {v : V} {e tg iter : Expr} {es : List Expr} {p : Addr} {Dn : Ends} {f : Str} {st : Stmt}
def tTv (f : EF) : TFn := fun ρ => match f ρ with
  | .ok _ (.bl b) ρ1 => .ok b ρ1
  | .ok _ _ _ => .no
  | .ex x ρ1 => .ex x ρ1
  | .no => .no
theorem tv_of {t : TE} {f : EF} (h : PT X e (tTest t)) (k : ∀ σ H Q, tF X.K B f σ H Q → t σ H Q) : PT X e (tT X.K B (tTv f)) := PT.imp h fun σ H Q ⟨G, ρ, S, q⟩ => by
  refine k σ H _ ⟨G, ρ, S, ?_⟩
  dsimp only [tTv] at q
  cases h1 : f ρ with
  | ok fl d ρ1 =>
    rw [h1] at q
    intro G1 H1 v e1 S1 k1
    cases d with
    | bl b => exact ⟨b, k1.blv, q G1 H1 e1 S1⟩
    | _ => exact q.elim
  | ex x ρ1 => rw [h1] at q; exact q
  | no => rw [h1] at q; exact q
theorem prim_read {r : List V → Hp → VK → Prop} {pr : Pr} {os : List Opd} (hv : CallV K B.T r pr) : ∀ σ H Q, tF K B (fPrim pr os) σ H Q → tCB r (tOs K B os) σ H Q := fun σ H Q ⟨G, ρ, S, q⟩ => by
  show tOs K B os σ H fun vs H1 => r vs H1 Q
  refine tOs_run S ?_
  dsimp only [fPrim] at q
  cases h1 : evOs os ρ with
  | ok hs ρ1 =>
    rw [h1] at q
    intro G1 H1 vs e1 S1 k1
    dsimp only at q
    cases h2 : getAll ρ1 hs with
    | none => rw [h2] at q; exact q.elim
    | some ds =>
      rw [h2] at q
      dsimp only at q
      cases h3 : pr ds with
      | none => rw [h3] at q; exact q.elim
      | some x =>
        obtain ⟨fl, d⟩ := x
        rw [h3] at q
        exact hv G1 H1 vs ds fl d Q S1.ex (getAll_ok S1 k1 h2) h3 fun G' H' v n => q G' H' v (e1.trans n.1.e) (S1.grow n.1) (n.val S1)
  | ex x ρ1 => rw [h1] at q; exact q
  | no => rw [h1] at q; exact q
theorem tc_bin {r : R2} {pr : Pr} {a b : Opd} (h : PT X e (tTest (tOp r (tO X.K B a) (tO X.K B b)))) (hv : CallV X.K B.T (r2of r) pr) : PT X e (tT X.K B (tTv (fPrim pr [a, b]))) :=
  tv_of h (prim_read (r := r2of r) (os := [a, b]) hv)
theorem tc_un1 {r : V → Hp → VK → Prop} {pr : Pr} {a : Opd} (h : PT X e (tTest (tUn r (tO X.K B a)))) (hv : CallV X.K B.T (r1of r) pr) : PT X e (tT X.K B (tTv (fPrim pr [a]))) :=
  tv_of h (prim_read (r := r1of r) (os := [a]) hv)
theorem PT.or {t t' : TT} (h : PT X e t) (h' : PT X e t') : PT X e (fun σ H Q => t σ H Q ∨ t' σ H Q) :=
  ⟨fun pins s σ H Q I q => q.elim (h.run pins s σ H Q I) (h'.run pins s σ H Q I)⟩
theorem tc_or2 {p q : Pr} {os : List Opd} (h : PT X e (tT X.K B (tTv (fPrim p os)))) (h' : PT X e (tT X.K B (tTv (fPrim q os)))) : PT X e (tT X.K B (tTv (fPrim (prOr p q) os))) := PT.imp (PT.or h h') fun σ H Q hq => by
  obtain ⟨G, ρ, S, z⟩ := hq
  cases h1 : evOs os ρ with
  | ok hs ρ1 =>
    cases h2 : getAll ρ1 hs with
    | none => simp only [tTv, fPrim, h1, h2] at z; exact z.elim
    | some ds =>
      cases h3 : p ds with
      | some y => exact .inl ⟨G, ρ, S, by simp only [tTv, fPrim, h1, h2, prOr, h3] at z ⊢; exact z⟩
      | none => exact .inr ⟨G, ρ, S, by simp only [tTv, fPrim, h1, h2, prOr, h3] at z ⊢; exact z⟩
  | ex y ρ1 => exact .inl ⟨G, ρ, S, by simp only [tTv, fPrim, h1] at z ⊢; exact z⟩
  | no => simp only [tTv, fPrim, h1] at z; exact z.elim
theorem tc_lt {a b : Expr} {oa ob : Opd} {pos} (ha : PE X a (tO X.K B oa)) (hb : PE X b (tO X.K B ob)) : PT X (.Compare a [.Lt] [b] pos) (tT X.K B (tTv (fPrim prLt [oa, ob]))) := tc_bin (pt_cmpR (opI_tt op_lt) ha hb (nomark _)) (cv_I (fun _ _ _ => trivial) fun _ _ => rfl)
theorem tc_le {a b : Expr} {oa ob : Opd} {pos} (ha : PE X a (tO X.K B oa)) (hb : PE X b (tO X.K B ob)) : PT X (.Compare a [.LtE] [b] pos) (tT X.K B (tTv (fPrim prLe [oa, ob]))) := tc_bin (pt_cmpR (opI_tt op_le) ha hb (nomark _)) (cv_I (fun _ _ _ => trivial) fun _ _ => rfl)
theorem tc_gt {a b : Expr} {oa ob : Opd} {pos} (ha : PE X a (tO X.K B oa)) (hb : PE X b (tO X.K B ob)) : PT X (.Compare a [.Gt] [b] pos) (tT X.K B (tTv (fPrim prGt [oa, ob]))) := tc_bin (pt_cmpR (opI_tt op_gt) ha hb (nomark _)) (cv_I (fun _ _ _ => trivial) fun _ _ => rfl)
theorem tc_ge {a b : Expr} {oa ob : Opd} {pos} (ha : PE X a (tO X.K B oa)) (hb : PE X b (tO X.K B ob)) : PT X (.Compare a [.GtE] [b] pos) (tT X.K B (tTv (fPrim prGe [oa, ob]))) := tc_bin (pt_cmpR (opI_tt op_ge) ha hb (nomark _)) (cv_I (fun _ _ _ => trivial) fun _ _ => rfl)
theorem cv_eq : CallV K T (r2of fun x y H Q => ∃ p q, Dp K H x p ∧ Dp K H y q ∧ SeqAt.shaped p = true ∧ SeqAt.shaped q = true ∧ Q (.bl (PyData.eqv p q)) H) prEq := fun G H vs ds fl d Q x c hp k => by
  unfold prEq at hp
  split at hp
  · obtain ⟨u, w, rfl, c1, c2⟩ := c.two
    split at hp
    · rename_i r hr
      cases hp
      obtain ⟨p, q, h1, h2, s1, s2, e⟩ := eqD_some hr
      subst e
      exact ⟨p, q, c1.dp x h1, c2.dp x h2, s1, s2, k _ _ _ (new_same x rfl)⟩
    · cases hp
  · cases hp
theorem cv_ne : CallV K T (r2of fun x y H Q => ∃ p q, Dp K H x p ∧ Dp K H y q ∧ SeqAt.shaped p = true ∧ SeqAt.shaped q = true ∧ Q (.bl (!PyData.eqv p q)) H) prNe := fun G H vs ds fl d Q x c hp k => by
  unfold prNe at hp
  split at hp
  · obtain ⟨u, w, rfl, c1, c2⟩ := c.two
    split at hp
    · rename_i r hr
      cases hp
      obtain ⟨p, q, h1, h2, s1, s2, e⟩ := eqD_some hr
      subst e
      exact ⟨p, q, c1.dp x h1, c2.dp x h2, s1, s2, k _ _ _ (new_same x rfl)⟩
    · cases hp
  · cases hp
theorem tc_eq (hu : X.A.units + 64 < cLine) {a b : Expr} {oa ob : Opd} {pos} (ha : PE X a (tO X.K B oa)) (hb : PE X b (tO X.K B ob)) : PT X (.Compare a [.Eq] [b] pos) (tT X.K B (tTv (fPrim prEq [oa, ob]))) := tc_bin (pt_cmpR (op_eqD hu) ha hb (nomark _)) cv_eq
theorem tc_ne (hu : X.A.units + 64 < cLine) {a b : Expr} {oa ob : Opd} {pos} (ha : PE X a (tO X.K B oa)) (hb : PE X b (tO X.K B ob)) : PT X (.Compare a [.NotEq] [b] pos) (tT X.K B (tTv (fPrim prNe [oa, ob]))) := tc_bin (pt_cmpR (op_neD hu) ha hb (nomark _)) cv_ne
theorem tc_in (hu : X.A.units + 65 < cLine) {a b : Expr} {oa ob : Opd} {pos} (ha : PE X a (tO X.K B oa)) (hb : PE X b (tO X.K B ob)) (hm : behindInMarks .In b = false) : PT X (.Compare a [.In] [b] pos) (tT X.K B (tTv (fPrim prIn [oa, ob]))) :=
  tc_or2 (tc_bin (pt_cmpR (op_inD hu) ha hb hm) (cv_inL (neg := false))) (tc_or2 (tc_bin (pt_cmpR op_in_seq ha hb hm) (cv_inT (neg := false)))
    (tc_or2 (tc_bin (pt_cmpR op_in_str ha hb hm) (cv_inS (neg := false))) (tc_bin (r := fun y x H Q => ∃ a o, x = .ref a ∧ DGet H a y o ∧ Q (.bl o.isSome) H) (pt_cmp (pc_din (by omega) ha hb) hm) (cv_inD (neg := false)))))
theorem tc_nin (hu : X.A.units + 65 < cLine) {a b : Expr} {oa ob : Opd} {pos} (ha : PE X a (tO X.K B oa)) (hb : PE X b (tO X.K B ob)) (hm : behindInMarks .NotIn b = false) : PT X (.Compare a [.NotIn] [b] pos) (tT X.K B (tTv (fPrim prNin [oa, ob]))) :=
  tc_or2 (tc_bin (pt_cmpR (op_notInD hu) ha hb hm) (cv_inL (neg := true))) (tc_or2 (tc_bin (pt_cmpR op_notIn_seq ha hb hm) (cv_inT (neg := true)))
    (tc_or2 (tc_bin (pt_cmpR op_notIn_str ha hb hm) (cv_inS (neg := true))) (tc_bin (r := fun y x H Q => ∃ a o, x = .ref a ∧ DGet H a y o ∧ Q (.bl (!o.isSome)) H) (pt_cmp (pc_dnotin (by omega) ha hb) hm) (cv_inD (neg := true)))))
theorem cv_isN : CallV K T (r1of fun x H Q => Q (.bl (decide (x = .non))) H) prIsN := fun G H vs ds fl d Q x c hp k => by
  unfold prIsN at hp
  split at hp
  · obtain ⟨u, rfl, c1⟩ := c.one
    cases hp
    show Q (.bl (decide (u = .non))) H
    rw [c1.isNon]
    exact k _ _ _ (new_same x rfl)
  · cases hp
theorem cv_notN : CallV K T (r1of fun x H Q => Q (.bl (!decide (x = .non))) H) prNotN := fun G H vs ds fl d Q x c hp k => by
  unfold prNotN at hp
  split at hp
  · obtain ⟨u, rfl, c1⟩ := c.one
    cases hp
    show Q (.bl (!decide (u = .non))) H
    rw [c1.isNon]
    exact k _ _ _ (new_same x rfl)
  · cases hp
theorem tc_isN {a : Expr} {o : Opd} {j pos' pos} (h : PE X a (tO X.K B o)) : PT X (.Compare a [.Is] [.Constant .none j pos'] pos) (tT X.K B (tTv (fPrim prIsN [o]))) :=
  tc_un1 (r := fun x H Q => Q (.bl (decide (x = .non))) H) (show PT X _ (tTest (tUn (fun x H Q => Q (.bl (decide (x = .non))) H) (tO X.K B o))) from pt_cmp (pc_isN h) rfl) cv_isN
theorem tc_notN {a : Expr} {o : Opd} {j pos' pos} (h : PE X a (tO X.K B o)) : PT X (.Compare a [.IsNot] [.Constant .none j pos'] pos) (tT X.K B (tTv (fPrim prNotN [o]))) :=
  tc_un1 (r := fun x H Q => Q (.bl (!decide (x = .non))) H) (show PT X _ (tTest (tUn (fun x H Q => Q (.bl (!decide (x = .non))) H) (tO X.K B o))) from pt_cmp (pc_notN h) rfl) cv_notN
theorem chain_read {oa ob oc : Opd} {p q : Int → Int → Bool} : ∀ σ H Q, tF K B (fChain p q oa ob oc) σ H Q → tChain (rI0 fun i j => .bl (p i j)) (rI0 fun i j => .bl (q i j)) (tO K B oa) (tO K B ob) (tO K B oc) σ H Q := fun σ H Q ⟨G, ρ, S, z⟩ => by
  refine tO_run S ?_
  dsimp only [fChain] at z
  cases h1 : evO oa ρ with
  | ex x ρ1 => rw [h1] at z; exact z
  | no => rw [h1] at z; exact z
  | ok hA ρ1 =>
    rw [h1] at z
    intro G1 H1 v1 e1 S1 k1
    refine tO_run S1 ?_
    dsimp only at z
    cases h2 : evO ob ρ1 with
    | ex x ρ2 => rw [h2] at z; exact z
    | no => rw [h2] at z; exact z
    | ok hB ρ2 =>
      rw [h2] at z
      intro G2 H2 v2 e2 S2 k2
      dsimp only at z
      split at z
      · rename_i i j g1 g2
        have c1 := (Hd.get_ok S2 (k1.mono e2) g1).int
        have c2 := (Hd.get_ok S2 k2 g2).int
        refine ⟨i, j, c1, c2, p i j, rfl, ?_⟩
        by_cases hp : p i j = true
        · rw [if_pos hp] at z ⊢
          refine tO_run S2 ?_
          cases h3 : evO oc ρ2 with
          | ex x ρ3 => rw [h3] at z; exact z
          | no => rw [h3] at z; exact z
          | ok hC ρ3 =>
            rw [h3] at z
            intro G3 H3 v3 e3 S3 k3
            dsimp only at z
            split at z
            · rename_i k g3
              exact ⟨j, k, c2, (Hd.get_ok S3 k3 g3).int, z G3 H3 _ ((e1.trans e2).trans e3) S3 rfl⟩
            · exact z.elim
        · rw [if_neg hp] at z ⊢
          exact z G2 H2 _ (e1.trans e2) S2 rfl
      · exact z.elim
theorem tch_ll {a b c : Expr} {oa ob oc : Opd} {pos} (ha : PE X a (tO X.K B oa)) (hb : PE X b (tO X.K B ob)) (hc : PE X c (tO X.K B oc)) (hm : lastMarks [.LtE, .Lt] [b, c] = false := by with_unfolding_all rfl) :
    PT X (.Compare a [.LtE, .Lt] [b, c] pos) (tT X.K B (tTv (fChain (fun i j => decide (i ≤ j)) (fun i j => decide (i < j)) oa ob oc))) := tv_of (pt_chain op_le op_lt ha hb hc hm) chain_read
theorem tch_le {a b c : Expr} {oa ob oc : Opd} {pos} (ha : PE X a (tO X.K B oa)) (hb : PE X b (tO X.K B ob)) (hc : PE X c (tO X.K B oc)) (hm : lastMarks [.LtE, .LtE] [b, c] = false := by with_unfolding_all rfl) :
    PT X (.Compare a [.LtE, .LtE] [b, c] pos) (tT X.K B (tTv (fChain (fun i j => decide (i ≤ j)) (fun i j => decide (i ≤ j)) oa ob oc))) := tv_of (pt_chain op_le op_le ha hb hc hm) chain_read
theorem tch_lt {a b c : Expr} {oa ob oc : Opd} {pos} (ha : PE X a (tO X.K B oa)) (hb : PE X b (tO X.K B ob)) (hc : PE X c (tO X.K B oc)) (hm : lastMarks [.Lt, .Lt] [b, c] = false := by with_unfolding_all rfl) :
    PT X (.Compare a [.Lt, .Lt] [b, c] pos) (tT X.K B (tTv (fChain (fun i j => decide (i < j)) (fun i j => decide (i < j)) oa ob oc))) := tv_of (pt_chain op_lt op_lt ha hb hc hm) chain_read
theorem tch_tl {a b c : Expr} {oa ob oc : Opd} {pos} (ha : PE X a (tO X.K B oa)) (hb : PE X b (tO X.K B ob)) (hc : PE X c (tO X.K B oc)) (hm : lastMarks [.Lt, .LtE] [b, c] = false := by with_unfolding_all rfl) :
    PT X (.Compare a [.Lt, .LtE] [b, c] pos) (tT X.K B (tTv (fChain (fun i j => decide (i < j)) (fun i j => decide (i ≤ j)) oa ob oc))) := tv_of (pt_chain op_lt op_le ha hb hc hm) chain_read
end
end Pf
namespace Pf
open PySem PySem.Spec PyProof.Rows L2
/-- a law: F gives the written part, the function object, the promise over every base; exceptions as L2N.CX has them -/
theorem walkC {l : PySem.W.OpenLaw} {n k : Nat} {q : Program} {loose : List Str} {XP : (Str → Option Value) → Heap → Prop} {YP : World → Heap → Prop} {d : DefRec} {x : Str}
    (hn : l.most = some n) (hn2 : n ≤ sizeLine) (hdf : d.params.defaults = []) (hr : Room k callerA)
    (F : ∀ (w : World) (mg : Str → Option Value) (fa : Addr) (h : Heap), YP w h → h.Ns mainGlobals mg → mg d.name = some (.ref fa) →
      ∃ (K : PySem.W.Frag) (fd : FuncData) (sp : Sp), K.In h ∧ (∀ (s : Shared) (u : Value), BindsTo s fd ⟨[u], []⟩ [(x, u)]) ∧
        (∀ (H : Hp) (a : Addr) (ns : List Int), ns.length ≤ n → Only H → SqL K H a (ns.map V.int) → sp [.ref a] H (fun v _ => v = .bl true) fun _ _ _ => False) ∧
        ∀ base : Heap, K.In base → base.Ns mainGlobals mg → FnOk l.prog w K mg base (L2N.CX l.prog w) k fa fd [x] sp) :
    PySem.W.WalkO q loose XP YP l.row.toRowW d [] (fun f vs => PySem.call f vs) := by
  refine Att.attach_call hn hdf fun w s₀ s₁ mg mb fa o pm cd doc a vs ns G Y ho hd hcd hmg hobj hints hlen hg => ?_
  obtain ⟨K, fd, sp, KX, hb, hsp, hF⟩ := F w mg fa _ Y G.T.g hmg
  refine law_call KX G.T.g G.T.b G.T.builtins G.T.nolimit hg hobj hints (Nat.le_trans hlen hn2) hr hF hb (fun H hO hS => hsp H a ns hlen hO hS) fun H e s' z => ?_
  obtain ⟨_, _, _, _, _, _, _, _, _, _, _, _, z⟩ := z
  exact z.elim
end Pf
/-! part Pf19 -/
set_option Elab.async false
set_option linter.all false
set_option maxRecDepth 100000
set_option maxHeartbeats 1000000
/-! Pf19: operands that change nothing, read straight: the same functions, quicker to run. -/
namespace Pf
open PySem PySem.Spec PyProof.Rows L2
abbrev PF := Ve → Option (Bool × D)
abbrev QF := Ve → Option D
def eP (p : PF) : EF := fun ρ => match p ρ with
  | some (fl, d) => .ok fl d ρ
  | none => .no
def gt : Ve → Nat → Option D
  | [], _ => none
  | some (_, d) :: _, 0 => some d
  | none :: _, 0 => none
  | _ :: r, n + 1 => gt r n
def qV (i : Nat) : QF := fun ρ => gt ρ i
def qC (d : D) : QF := fun _ => some d
def qP (p : PF) : QF := fun ρ => match p ρ with
  | some (_, d) => some d
  | none => none
def p1 (pr : Pr) (a : QF) : PF := fun ρ => match a ρ with
  | some x => pr [x]
  | none => none
def p2 (pr : Pr) (a b : QF) : PF := fun ρ => match a ρ with
  | some x => match b ρ with
    | some y => pr [x, y]
    | none => none
  | none => none
/-- o changes nothing, gives what q reads -/
def Pu (o : Opd) (q : QF) : Prop := ∀ ρ, (∃ d h, q ρ = some d ∧ evO o ρ = .ok h ρ ∧ h.get ρ = some d) ∨ (q ρ = none ∧ evO o ρ = .no)
theorem gt_eq : ∀ (ρ : Ve) (i : Nat), gt ρ i = match ρ[i]? with | some (some (_, d)) => some d | _ => none
  | [], i => by simp [gt]
  | some (_, d) :: _, 0 => rfl
  | none :: _, 0 => rfl
  | x :: r, n + 1 => by
    have h := gt_eq r n
    show gt (x :: r) (n + 1) = _
    have e : gt (x :: r) (n + 1) = gt r n := by cases x <;> rfl
    rw [e, h, List.getElem?_cons_succ]
theorem pu_v (i : Nat) : Pu (.v i) (qV i) := fun ρ => by
  have h := gt_eq ρ i
  unfold qV evO
  dsimp only
  cases e : ρ[i]? with
  | none => rw [e] at h; exact .inr ⟨h, rfl⟩
  | some x =>
    rw [e] at h
    cases x with
    | none => exact .inr ⟨h, rfl⟩
    | some y =>
      obtain ⟨fl, d⟩ := y
      exact .inl ⟨d, .sl i, h, rfl, by unfold Hd.get; dsimp only; rw [e]⟩
theorem pu_c (d : D) : Pu (.e (eC d)) (qC d) := fun ρ => .inl ⟨d, .val d, rfl, rfl, rfl⟩
theorem pu_p (p : PF) : Pu (.e (eP p)) (qP p) := fun ρ => by
  unfold qP evO eP
  dsimp only
  cases e : p ρ with
  | none => exact .inr ⟨rfl, rfl⟩
  | some x => exact .inl ⟨x.2, .val x.2, rfl, rfl, rfl⟩
theorem prim1_eq {pr : Pr} {o : Opd} {q : QF} (h : Pu o q) : fPrim pr [o] = eP (p1 pr q) := funext fun ρ => by
  unfold fPrim eP p1 evOs
  rcases h ρ with ⟨d, hd, e1, e2, e3⟩ | ⟨e1, e2⟩
  · simp only [e1, e2, evOs, getAll, e3]
    try (rcases pr [d] with _ | ⟨fl, z⟩ <;> rfl)
  · simp only [e1, e2]
theorem prim2_eq {pr : Pr} {o o' : Opd} {q q' : QF} (h : Pu o q) (h' : Pu o' q') : fPrim pr [o, o'] = eP (p2 pr q q') := funext fun ρ => by
  unfold fPrim eP p2 evOs evOs
  rcases h ρ with ⟨d, hd, e1, e2, e3⟩ | ⟨e1, e2⟩
  · rcases h' ρ with ⟨d', hd', f1, f2, f3⟩ | ⟨f1, f2⟩
    · simp only [e1, e2, f1, f2, evOs, getAll, e3, f3]
      try (rcases pr [d, d'] with _ | ⟨fl, z⟩ <;> rfl)
    · simp only [e1, e2, f1, f2]
  · simp only [e1, e2]
def tPf (p : PF) : TFn := fun ρ => match p ρ with
  | some (_, .bl b) => .ok b ρ
  | _ => .no
theorem tv_eq {p : PF} : tTv (eP p) = tPf p := funext fun ρ => by
  unfold tTv eP tPf
  cases e : p ρ with
  | none => rfl
  | some x =>
    obtain ⟨fl, d⟩ := x
    cases d <;> rfl
section
variable {X : Cx} {B : Bs} {e : Expr} {pr : Pr} {o o' : Opd} {q q' : QF} {p : PF}
theorem pe_p1 (a : Pu o q) (h : PE X e (tF X.K B (fPrim pr [o]))) : PE X e (tF X.K B (eP (p1 pr q))) := by rw [← prim1_eq a]; exact h
theorem pe_p2 (a : Pu o q) (b : Pu o' q') (h : PE X e (tF X.K B (fPrim pr [o, o']))) : PE X e (tF X.K B (eP (p2 pr q q'))) := by rw [← prim2_eq a b]; exact h
theorem pt_p1 (a : Pu o q) (h : PT X e (tT X.K B (tTv (fPrim pr [o])))) : PT X e (tT X.K B (tPf (p1 pr q))) := by rw [← tv_eq, ← prim1_eq a]; exact h
theorem pt_p2 (a : Pu o q) (b : Pu o' q') (h : PT X e (tT X.K B (tTv (fPrim pr [o, o'])))) : PT X e (tT X.K B (tPf (p2 pr q q'))) := by rw [← tv_eq, ← prim2_eq a b]; exact h
/-! the truth of a call's bool .. -/
end
end Pf
/-! part Pf20 -/
set_option Elab.async false
set_option linter.all false
set_option maxRecDepth 100000
set_option maxHeartbeats 1000000
/-! Pf20: the same functions, by the lists' own recursor: quicker to run in the kernel. -/
namespace Pf
open PySem PySem.Spec PyProof.Rows L2
noncomputable section
def nthR (ρ : Ve) (i : Nat) : Option Sl := List.rec (motive := fun _ => Nat → Option Sl) (fun _ => none) (fun a _ ih n => Nat.rec (motive := fun _ => Option Sl) (some a) (fun m _ => ih m) n) ρ i
def gtR (ρ : Ve) (i : Nat) : Option D := List.rec (motive := fun _ => Nat → Option D) (fun _ => none) (fun a _ ih n => Nat.rec (motive := fun _ => Option D) (match a with | some (_, d) => some d | none => none) (fun m _ => ih m) n) ρ i
def setR (ρ : Ve) (j : Nat) (x : Sl) : Ve := List.rec (motive := fun _ => Nat → Ve) (fun _ => []) (fun a r ih n => Nat.rec (motive := fun _ => Ve) (x :: r) (fun m _ => a :: ih m) n) ρ j
theorem nthR_eq : ∀ (ρ : Ve) (i : Nat), nthR ρ i = ρ[i]?
  | [], i => by simp [nthR]
  | a :: r, 0 => rfl
  | a :: r, n + 1 => by
    rw [List.getElem?_cons_succ, ← nthR_eq r n]; rfl
theorem gtR_eq : ∀ (ρ : Ve) (i : Nat), gtR ρ i = gt ρ i
  | [], i => by simp [gtR, gt]
  | some (_, d) :: r, 0 => rfl
  | none :: r, 0 => rfl
  | a :: r, n + 1 => by
    have e : gt (a :: r) (n + 1) = gt r n := by cases a <;> rfl
    rw [e, ← gtR_eq r n]; rfl
theorem setR_eq : ∀ (ρ : Ve) (j : Nat) (x : Sl), setR ρ j x = ρ.set j x
  | [], j, x => by simp [setR]
  | a :: r, 0, x => rfl
  | a :: r, n + 1, x => by
    show a :: setR r n x = a :: r.set n x
    rw [setR_eq r n x]
def qR (i : Nat) : QF := fun ρ => gtR ρ i
theorem pu_r (i : Nat) : Pu (.v i) (qR i) := by
  have e : qR i = qV i := funext fun ρ => gtR_eq ρ i
  rw [e]; exact pu_v i
def eVarR (i : Nat) : EF := fun ρ => match nthR ρ i with
  | some (some (.fz, d)) => .ok false d ρ
  | some (some (.ow, d)) => .ok false d (setR ρ i (some (.fz, d)))
  | _ => .no
theorem eVarR_eq (i : Nat) : eVarR i = eVar i := funext fun ρ => by unfold eVarR eVar; simp only [nthR_eq, setR_eq]; try rfl
def asgR : Tg → Bool → D → Ve → Option Ve
  | .n j, fl, d, ρ => some (setR ρ j (some (if fl = true then .ow else .fz, d)))
  | .t [.n i, .n j], _, .tup [a, b], ρ => some (setR (setR ρ i (some (.fz, a))) j (some (.fz, b)))
  | t, fl, d, ρ => asgT t fl d ρ
theorem asgR_eq (t : Tg) (fl : Bool) (d : D) (ρ : Ve) : asgR t fl d ρ = asgT t fl d ρ := by
  unfold asgR
  split
  · rw [setR_eq]; simp only [asgT]
  · rw [setR_eq, setR_eq]; simp [asgT, asgTs]
  · rfl
def sAsgR (t : Tg) (f : EF) : SF := fun ρ => match f ρ with
  | .ok fl d ρ1 => match asgR t fl d ρ1 with
    | some ρ2 => .nx ρ2
    | none => .no
  | .ex x ρ1 => .ex x ρ1
  | .no => .no
theorem sAsgR_eq (t : Tg) (f : EF) : sAsgR t f = sAsg t f := funext fun ρ => by unfold sAsgR sAsg; simp only [asgR_eq]; try rfl
def loopR (t : Tg) (body : SF) (ds : List D) : Ve → SR := List.rec (motive := fun _ => Ve → SR) (fun ρ => .nx ρ) (fun d _ ih ρ => match asgR t false d ρ with
    | none => .no
    | some ρ1 => match body ρ1 with
      | .nx ρ2 => ih ρ2
      | .ct ρ2 => ih ρ2
      | .br ρ2 => .nx ρ2
      | .rt fl d ρ2 => .rt fl d ρ2
      | .ex x ρ2 => .ex x ρ2
      | .no => .no) ds
theorem loopR_eq (t : Tg) (body : SF) : ∀ (ds : List D) (ρ : Ve), loopR t body ds ρ = loopS t body ds ρ
  | [], ρ => rfl
  | d :: ds, ρ => by
    unfold loopS
    show (match asgR t false d ρ with
      | none => SR.no
      | some ρ1 => match body ρ1 with
        | .nx ρ2 => loopR t body ds ρ2
        | .ct ρ2 => loopR t body ds ρ2
        | .br ρ2 => .nx ρ2
        | .rt fl d ρ2 => .rt fl d ρ2
        | .ex x ρ2 => .ex x ρ2
        | .no => .no) = _
    simp only [asgR_eq, loopR_eq t body ds]
    try rfl
def sForR (t : Tg) (F : ITf) (body : SF) : SF := fun ρ => match F ρ with
  | .ok ds ρ1 => loopR t body ds ρ1
  | .ex x ρ1 => .ex x ρ1
  | .no => .no
theorem sForR_eq (t : Tg) (F : ITf) (body : SF) : sForR t F body = sFor t F body := funext fun ρ => by unfold sForR sFor; simp only [loopR_eq]; try rfl
def sForKR (t : Tg) (i : Nat) (body : SF) : SF := fun ρ => match nthR ρ i with
  | some (some (.fz, d)) => match keysD d with
    | some ds => noX (loopR t body ds ρ)
    | none => .no
  | some (some (.ow, d)) => match keysD d with
    | some ds => noX (loopR t body ds (setR ρ i (some (.fz, d))))
    | none => .no
  | _ => .no
theorem sForKR_eq (t : Tg) (i : Nat) (body : SF) : sForKR t i body = sForK t i body := funext fun ρ => by
  unfold sForKR sForK
  simp only [nthR_eq, loopR_eq, setR_eq]
  try rfl
def sRetVR (i : Nat) : SF := fun ρ => match nthR ρ i with
  | some (some (.fz, d)) => .rt false d ρ
  | some (some (.ow, d)) => .rt true d (setR ρ i none)
  | _ => .no
theorem sRetVR_eq (i : Nat) : sRetVR i = sRetV i := funext fun ρ => by unfold sRetVR sRetV; simp only [nthR_eq, setR_eq]; try rfl
def wipeR (ρ : Ve) : List Nat → Ve
  | [] => ρ
  | v :: vs => setR (wipeR ρ vs) v none
theorem wipeR_eq (ρ : Ve) : ∀ vs, wipeR ρ vs = wipeV ρ vs
  | [] => rfl
  | v :: vs => by show setR (wipeR ρ vs) v none = (wipeV ρ vs).set v none; rw [setR_eq, wipeR_eq ρ vs]
def restR (ρ0 ρ : Ve) : List Nat → Ve
  | [] => ρ
  | v :: vs => setR (restR ρ0 ρ vs) v ((nthR ρ0 v).getD none)
theorem restR_eq (ρ0 ρ : Ve) : ∀ vs, restR ρ0 ρ vs = restV ρ0 ρ vs
  | [] => rfl
  | v :: vs => by show setR (restR ρ0 ρ vs) v ((nthR ρ0 v).getD none) = (restV ρ0 ρ vs).set v ((ρ0[v]?).getD none); rw [setR_eq, restR_eq ρ0 ρ vs, nthR_eq]
def loopCR (vs : List Nat) (t : Tg) (c : TFn) (el : EF) (ds : List D) : Ve → CR := List.rec (motive := fun _ => Ve → CR) (fun ρ => .ok [] ρ) (fun d _ ih ρ => match asgR t false d ρ with
    | none => .no
    | some ρ1 => match c ρ1 with
      | .ok true ρ2 => match el ρ2 with
        | .ok _ y ρ3 => (ih (wipeR ρ3 vs)).con y
        | .ex x ρ3 => .ex x ρ3
        | .no => .no
      | .ok false ρ2 => ih (wipeR ρ2 vs)
      | .ex x ρ2 => .ex x ρ2
      | .no => .no) ds
theorem loopCR_eq (vs : List Nat) (t : Tg) (c : TFn) (el : EF) : ∀ (ds : List D) (ρ : Ve), loopCR vs t c el ds ρ = loopC vs t c el ds ρ
  | [], ρ => rfl
  | d :: ds, ρ => by
    unfold loopC
    show (match asgR t false d ρ with
    | none => CR.no
    | some ρ1 => match c ρ1 with
      | .ok true ρ2 => match el ρ2 with
        | .ok _ y ρ3 => (loopCR vs t c el ds (wipeR ρ3 vs)).con y
        | .ex x ρ3 => .ex x ρ3
        | .no => .no
      | .ok false ρ2 => loopCR vs t c el ds (wipeR ρ2 vs)
      | .ex x ρ2 => .ex x ρ2
      | .no => .no) = _
    simp only [asgR_eq, loopCR_eq vs t c el ds, wipeR_eq]
    try rfl
def fLcR (vs : List Nat) (F : ITf) (t : Tg) (c : TFn) (el : EF) : EF := fun ρ => match F ρ with
  | .ok ds ρ1 => if okOwn ρ1 vs = true ∧ ds.length ≤ 100000 then (match loopCR vs t c el ds (wipeR ρ1 vs) with
    | .ok ys ρ2 => .ok true (.lst ys) (restR ρ1 ρ2 vs)
    | .ex _ _ => .no
    | .no => .no) else .no
  | .ex x ρ1 => .ex x ρ1
  | .no => .no
theorem fLcR_eq (vs : List Nat) (F : ITf) (t : Tg) (c : TFn) (el : EF) : fLcR vs F t c el = fLc vs F t c el := funext fun ρ => by
  unfold fLcR fLc
  simp only [loopCR_eq, wipeR_eq, restR_eq]
  try rfl
def fMutR (tyOk : D → Bool) (mu : Mu) (i : Nat) (os : List Opd) : EF := fun ρ => match nthR ρ i with
  | some (some (_, dd)) => if tyOk dd = true then (match evOs os ρ with
    | .ok hs ρ1 => match vals hs, nthR ρ1 i with
      | some ds, some (some (fl, d0)) => if fl = .fz then .no else match mu d0 ds with
        | some (res, d1) => .ok false res (setR ρ1 i (some (fl, d1)))
        | none => .no
      | _, _ => .no
    | .ex x ρ1 => .ex x ρ1
    | .no => .no) else .no
  | _ => .no
theorem fMutR_eq (tyOk : D → Bool) (mu : Mu) (i : Nat) (os : List Opd) : fMutR tyOk mu i os = fMut tyOk mu i os := funext fun ρ => by
  unfold fMutR fMut
  simp only [nthR_eq, setR_eq]
  try rfl
section
variable {X : Cx} {B : Bs} {e tg iter : Expr} {st : Stmt}
theorem pe_eVarR {i : Nat} (h : PE X e (tVar i)) : PE X e (tF X.K B (eVarR i)) := by rw [eVarR_eq]; exact pe_eVar h
theorem r_asg {t : Tg} {f : EF} (h : PS X st (tS X.K B (sAsg t f))) : PS X st (tS X.K B (sAsgR t f)) := by rw [sAsgR_eq]; exact h
theorem r_for {t : Tg} {F : ITf} {b : SF} (h : PS X st (tS X.K B (sFor t F b))) : PS X st (tS X.K B (sForR t F b)) := by rw [sForR_eq]; exact h
theorem r_forK {t : Tg} {i : Nat} {b : SF} (h : PS X st (tS X.K B (sForK t i b))) : PS X st (tS X.K B (sForKR t i b)) := by rw [sForKR_eq]; exact h
theorem r_retV {i : Nat} (h : PS X st (tS X.K B (sRetV i))) : PS X st (tS X.K B (sRetVR i)) := by rw [sRetVR_eq]; exact h
theorem r_lc {vs : List Nat} {F : ITf} {t : Tg} {c : TFn} {el : EF} (h : PE X e (tF X.K B (fLc vs F t c el))) : PE X e (tF X.K B (fLcR vs F t c el)) := by rw [fLcR_eq]; exact h
theorem r_aslc {i : Tg} {vs : List Nat} {F : ITf} {t : Tg} {c : TFn} {el : EF} (h : PS X st (tS X.K B (sAsg i (fLc vs F t c el)))) : PS X st (tS X.K B (sAsgR i (fLcR vs F t c el))) := by rw [sAsgR_eq, fLcR_eq]; exact h
theorem r_mut {k : D → Bool} {mu : Mu} {i : Nat} {os : List Opd} (h : PE X e (tF X.K B (fMut k mu i os))) : PE X e (tF X.K B (fMutR k mu i os)) := by rw [fMutR_eq]; exact h
end
end
end Pf
/-! part Pf21 -/
set_option Elab.async false
set_option linter.all false
set_option maxRecDepth 100000
set_option maxHeartbeats 1000000
/-! Pf21: quicker equal forms of the subscript, of len, of comprehensions of two clauses. -/
namespace Pf
open PySem PySem.Spec PyProof.Rows L2
noncomputable section
def nthD (xs : List D) (i : Nat) : Option D := List.rec (motive := fun _ => Nat → Option D) (fun _ => none) (fun a _ ih n => Nat.rec (motive := fun _ => Option D) (some a) (fun m _ => ih m) n) xs i
theorem nthD_eq : ∀ (xs : List D) (i : Nat), nthD xs i = xs[i]?
  | [], i => by simp [nthD]
  | a :: r, 0 => rfl
  | a :: r, n + 1 => by rw [List.getElem?_cons_succ, ← nthD_eq r n]; rfl
def lenD (xs : List D) : Nat := List.rec (motive := fun _ => Nat) 0 (fun _ _ ih => ih + 1) xs
theorem lenD_eq : ∀ xs : List D, lenD xs = xs.length
  | [] => rfl
  | a :: r => by rw [List.length_cons, ← lenD_eq r]; rfl
def atD (xs : List D) : Int → Option D
  | .ofNat n => nthD xs n
  | i => atI xs i
theorem atD_eq (xs : List D) (i : Int) : atD xs i = atI xs i := by
  cases i with
  | ofNat n =>
    show nthD xs n = _
    rw [nthD_eq]
    unfold atI ixN
    have e0 : (0 : Int) ≤ Int.ofNat n := Int.natCast_nonneg n
    rw [if_pos e0]
    by_cases h : n < xs.length
    · have e1 : Int.ofNat n < (xs.length : Int) := by show ((n : Nat) : Int) < _; omega
      rw [if_pos e1]; rfl
    · have e1 : ¬ Int.ofNat n < (xs.length : Int) := by show ¬ ((n : Nat) : Int) < _; omega
      rw [if_neg e1, List.getElem?_eq_none_iff.mpr (by omega)]; rfl
  | negSucc n => rfl
def prSubQ : Pr
  | [.tup ds, .int i] => match atD ds i with | some d => some (false, d) | none => none
  | [.lst ds, .int i] => match atD ds i with | some d => some (false, d) | none => none
  | l => prSub' l
theorem prSubQ_eq : prSubQ = prSub' := funext fun l => by
  unfold prSubQ
  split
  · rename_i ds i
    rw [atD_eq]
    simp only [prSub', prOr, prIx, seqOf]
    cases atI ds i <;> simp [prDIx, dLook]
  · rename_i ds i
    rw [atD_eq]
    simp only [prSub', prOr, prIx, seqOf]
    cases atI ds i <;> simp [prDIx, dLook]
  · rfl
def prLenQ : Pr
  | [.tup ds] => some (false, .int (lenD ds : Nat))
  | [.lst ds] => some (false, .int (lenD ds : Nat))
  | l => prLen l
theorem prLenQ_eq : prLenQ = prLen := funext fun l => by
  unfold prLenQ
  split
  · rw [lenD_eq]; rfl
  · rw [lenD_eq]; rfl
  · rfl
def loop2R (vs vs1 : List Nat) (t : Tg) (c : TFn) (F1 : ITf) (t1 : Tg) (c1 : TFn) (el : EF) (ds : List D) : Nat → Ve → CR := List.rec (motive := fun _ => Nat → Ve → CR) (fun _ ρ => .ok [] ρ) (fun d _ ih n ρ => match asgR t false d ρ with
    | none => .no
    | some ρ1 => match c ρ1 with
      | .ok true ρ2 => match F1 ρ2 with
        | .ok ds1 ρ3 => if n + lenD ds1 ≤ 100000 then (match loopCR vs1 t1 c1 el ds1 (wipeR ρ3 vs1) with
          | .ok ys ρ4 => (ih (n + lenD ds1) (wipeR ρ4 vs)).cat ys
          | .ex x ρ4 => .ex x ρ4
          | .no => .no) else .no
        | .ex x ρ3 => .ex x ρ3
        | .no => .no
      | .ok false ρ2 => ih n (wipeR ρ2 vs)
      | .ex x ρ2 => .ex x ρ2
      | .no => .no) ds
theorem loop2R_eq (vs vs1 : List Nat) (t : Tg) (c : TFn) (F1 : ITf) (t1 : Tg) (c1 : TFn) (el : EF) : ∀ (ds : List D) (n : Nat) (ρ : Ve), loop2R vs vs1 t c F1 t1 c1 el ds n ρ = loopC2 vs vs1 t c F1 t1 c1 el n ds ρ
  | [], n, ρ => by unfold loopC2; rfl
  | d :: ds, n, ρ => by
    unfold loopC2
    show (match asgR t false d ρ with
    | none => CR.no
    | some ρ1 => match c ρ1 with
      | .ok true ρ2 => match F1 ρ2 with
        | .ok ds1 ρ3 => if n + lenD ds1 ≤ 100000 then (match loopCR vs1 t1 c1 el ds1 (wipeR ρ3 vs1) with
          | .ok ys ρ4 => (loop2R vs vs1 t c F1 t1 c1 el ds (n + lenD ds1) (wipeR ρ4 vs)).cat ys
          | .ex x ρ4 => .ex x ρ4
          | .no => .no) else .no
        | .ex x ρ3 => .ex x ρ3
        | .no => .no
      | .ok false ρ2 => loop2R vs vs1 t c F1 t1 c1 el ds n (wipeR ρ2 vs)
      | .ex x ρ2 => .ex x ρ2
      | .no => .no) = _
    simp only [asgR_eq, loop2R_eq vs vs1 t c F1 t1 c1 el ds, wipeR_eq, loopCR_eq, lenD_eq]
    try rfl
def fLc2R (vs vs1 : List Nat) (F : ITf) (t : Tg) (c : TFn) (F1 : ITf) (t1 : Tg) (c1 : TFn) (el : EF) : EF := fun ρ => match F ρ with
  | .ok ds ρ1 => if okOwn ρ1 vs = true then (match loop2R vs vs1 t c F1 t1 c1 el ds 0 (wipeR ρ1 vs) with
    | .ok ys ρ2 => .ok true (.lst ys) (restR ρ1 ρ2 vs)
    | .ex _ _ => .no
    | .no => .no) else .no
  | .ex x ρ1 => .ex x ρ1
  | .no => .no
theorem fLc2R_eq (vs vs1 : List Nat) (F : ITf) (t : Tg) (c : TFn) (F1 : ITf) (t1 : Tg) (c1 : TFn) (el : EF) : fLc2R vs vs1 F t c F1 t1 c1 el = fLc2 vs vs1 F t c F1 t1 c1 el := funext fun ρ => by
  unfold fLc2R fLc2
  simp only [loop2R_eq, wipeR_eq, restR_eq]
  try rfl
section
variable {X : Cx} {B : Bs} {e : Expr} {os : List Opd}
theorem q_sub (h : PE X e (tF X.K B (fPrim prSub' os))) : PE X e (tF X.K B (fPrim prSubQ os)) := by rw [prSubQ_eq]; exact h
theorem q_len (h : PE X e (tF X.K B (fPrim prLen os))) : PE X e (tF X.K B (fPrim prLenQ os)) := by rw [prLenQ_eq]; exact h
theorem r_lc2 {vs vs1 : List Nat} {F : ITf} {t : Tg} {c : TFn} {F1 : ITf} {t1 : Tg} {c1 : TFn} {el : EF} (h : PE X e (tF X.K B (fLc2 vs vs1 F t c F1 t1 c1 el))) : PE X e (tF X.K B (fLc2R vs vs1 F t c F1 t1 c1 el)) := by rw [fLc2R_eq]; exact h
end
end
end Pf
/-! part Px0 -/
set_option Elab.async false
set_option linter.all false
set_option maxRecDepth 100000
set_option maxHeartbeats 2000000
/-! Px0: super().__init__(e) in the __init__ of an own exception over ValueError. -/
namespace Pf
open PySem PySem.Spec PyProof.Rows L2
/-- what the top tells of an own exception's __init__ at f, with the cell cc of its class C -/
structure SupOk (P : Program) (K : PySem.W.Frag) (C f cc cda : Addr) (fd : FuncData) (ar : Arg) : Prop where
  cls : OexC K C
  lk : ∃ oc od osl, K.lookup f = some ⟨oc, od, .func fd, osl⟩
  par : (fd.params.posonlyargs ++ fd.params.args).head? = some ar
  code : ∃ ccl cdd vs ccs file tf, K.lookup cda = some ⟨ccl, cdd, .fields vs, ccs⟩ ∧ vs[2]? = some (.str file tf) ∧ ((P.main.file : Str) == file) = true
  cell : ∃ cl cld csl, K.lookup cc = some ⟨cl, cld, .cell (some (.ref C)), csl⟩
  mro : PySem.W.mroIn K C (.ref C) = some true
  sup : PySem.W.ks_superIn K C C "__init__" = some (some (.builtin "ValueError.__init__"))
  sub : PySem.W.subIn K (.ref C) (.type "ValueError") = some true
  nos : PySem.W.nsIn K mainGlobals "super" = some none
  opq : PySem.W.nsIn K cStatics "thirdparty.any" = some none
  top : (P.main.scope.names.lookup ("super" : Str)).isSome = false
section
variable {X : Cx} {C f cc cda : Addr} {fd : FuncData} {ar : Arg} {a : Addr} {σ : L2.St} {H : Hp} {s : Shared} {body : List Stmt} {p0 p1 p2 p3 p4 : Pos} {arg : Expr} {te : TE}
theorem super_exec (S : SupOk X.prog X.K C f cc cda fd ar) (I : Inv X [] σ H s) (ha : H a = some (exo a C none)) (hfu : X.env.func = some f) (hco : X.env.code = .ref cda) (hcl : X.env.cells.lookup ("__class__" : Str) = some cc)
    (hks : X.env.scope.names.lookup ("super" : Str) = some .globalImplicit) (hkc : X.env.scope.names.lookup ("__class__" : Str) = some .free) (hka : X.env.scope.names.lookup ar.arg = some .local)
    (hself : ∃ i : Nat, X.N[i]? = some ar.arg ∧ σ[i]? = some (some (.ref a))) (harg : PE X arg te) (hte : ∀ Q : VK, (∀ v, Q v H) → te σ H Q) (hmg : X.mg ("super" : Str) = none)
    (hst : starEach [arg] X.env = [(false, eval arg X.env)] := by rfl)
    (hsw : swapsWith (.Call (.Attribute (.Call (.Name "super" p0) [] [] p1) "__init__" p2) [arg] [] p3) none p4.line X.env = pure false := by rfl)
    (pl : Sem Bool)
    (hev : eval (.Call (.Attribute (.Call (.Name "super" p0) [] [] p1) "__init__" p2) [arg] [] p3) X.env = (do
      let ov ← attributeBase (.Call (.Name "super" p0) [] [] p1) "__init__" X.env (eval (.Call (.Name "super" p0) [] [] p1) X.env)
      standAt p2.atName
      let (f, first) ← holding [ov] (getMethod ov "__init__" pl)
      callWith p3 f first (backTo p3 (starEach [arg] X.env)) []) := by rfl) :
    _root_.PySem.wpAt (model X.prog X.w) X.A (.func body X.env) (exec (.Expr (.Call (.Attribute (.Call (.Name "super" p0) [] [] p1) "__init__" p2) [arg] [] p3) p4) X.env) (fun fl s' => fl = .next ∧ Inv X [] σ H s') X.xe s := by
  obtain ⟨nm, q, N, bs, bm, sn, sub, ab, col, dd, k0, k1, k2, k3, k5, hC, hbm⟩ := S.cls.cls
  obtain ⟨oc, od, osl, hlk⟩ := S.lk
  obtain ⟨ccl, cdd, vs, ccs, file, tf, hcode, hvs, hfile⟩ := S.code
  obtain ⟨cl, cld, csl, hcell⟩ := S.cell
  have hclsIn : PySem.W.clsIn X.K C = some { name := nm, bases := bs, mro := .ref C :: bm, ns := N, qualname := q, hasDict := true, slotNames := sn, subclasses := sub, abstract := ab, collection := col, hasDel := false } := by unfold PySem.W.clsIn; rw [hC] <;> rfl
  obtain ⟨t1, hx⟩ := exo_at I.hok ha
  have KI := I.kIn
  have hCh := KI _ _ hC
  obtain ⟨i, hN, hσ⟩ := hself
  obtain ⟨m, hns, hlocs⟩ := I.loc
  obtain ⟨u, ru, hlook⟩ := hlocs i ar.arg (.ref a) hN hσ (.inl hka)
  obtain rfl : u = Value.ref a := ru
  have hm : m ar.arg = some (.ref a) := by
    rcases hlook with ⟨_, z⟩ | ⟨z, _⟩
    · exact z
    · rcases z with z | z <;> · have z' := (show X.env.scope.names.lookup ar.arg = some _ from z); rw [hka] at z'; cases z'
  obtain ⟨mb, hblt, hboot⟩ := I.mod.blt
  have hxC : a ≠ C := fun z => by
    subst z
    rw [hx] at hCh
    cases hCh
  obtain ⟨hh, g, dr, tk, os⟩ := s
  refine PySem.ks_wpAt_Expr_any ?_ I.quiet hsw
  refine PySem.ks_wpAt_MethodCall (pl := pl) ?_ hev
  refine PySem.ks_wpAt_super_base (env := X.env) hks hkc (by decide) hfu (KI _ _ hlk) rfl S.par hco (KI _ _ hcode) rfl hvs hfile S.top ?_
  refine PySem.W.ks_loadName_global I.ok.kind hks (PySem.Calls.loadGlobal_builtin (env := X.env) (by rw [I.ok.glob]; exact I.mod.glob.keeps I.bk) hmg (by rw [I.ok.blt]; exact hblt.keeps I.bk) ((hboot _ (by decide +kernel)).trans (show bootBuiltins "super" = some (.type "super") by rfl)) ⟨rfl, ?_⟩)
  refine wpAny_loadName_free I.ok.kind hkc hcl ⟨_, KI _ _ hcell, rfl⟩ ?_
  refine wpAny_loadName_local I.ok.kind hka hns hm ?_
  refine PySem.ks_wpAny_isType_cls hCh rfl ⟨rfl, ?_⟩
  refine PySem.ks_wpAny_call_super hCh rfl hx rfl (fun c e => by cases e) (PySem.W.looks_mroIn KI S.mro) (fun h1 e1 kp1 => ?_)
  have I1 : Inv X [] σ H ⟨h1, g, dr, tk, os⟩ := I.kept kp1
  have hsup := S.sup
  unfold PySem.W.ks_superIn at hsup
  rw [hclsIn] at hsup
  have hinst : PySem.W.Looks (model X.prog X.w) h1 (isInstance (.ref a) (.type "ValueError")) true := by
    have ia : PySem.W.InstAt h1 a { cls := .ref C, dict := none, data := .fields #[.ref t1, .none, .none, .none, .bool false, .none] } C none := ⟨kp1 _ _ hx, rfl, rfl, trivial⟩
    exact ia.type.andThen (PySem.W.looks_subIn I1.kIn S.sub)
  refine PySem.W.kxs_getMethod PySem.W.kxs_ValueError e1 (PySem.W.looks_opaque I1.kIn S.opq) (l₀ := .ref C :: bm) ?_ rfl I1.kIn hsup hinst hxC (by decide) ?_
  · exact fun A Q E s k q => wpAny_bind ((PySem.W.looks_clsIn I1.kIn hclsIn) A _ E s k (wpAny_pure q))
  have kp2 : ∀ b o, h1.get? b = some o → (h1.push (PySem.W.kxs_mw "ValueError.__init__" a)).get? b = some o := fun b o e => Heap.get?_push_of_some _ e
  have I2 : Inv X [] σ H ⟨h1.push (PySem.W.kxs_mw "ValueError.__init__" a), g, dr, tk + 1, os⟩ := I1.kept (t' := tk + 1) kp2
  have hu : (h1.push (PySem.W.kxs_mw "ValueError.__init__" a)).get? h1.objs.size = some (PySem.W.kxs_mw "ValueError.__init__" a) := Heap.get?_push_at rfl rfl
  have nu : H h1.objs.size = none := I1.hok.fresh (Nat.le_refl _)
  have I3 : Inv X [(h1.objs.size, PySem.W.kxs_mw "ValueError.__init__" a)] σ H ⟨h1.push (PySem.W.kxs_mw "ValueError.__init__" a), g, dr, tk + 1, os⟩ := by
    refine I2.pins_of fun p hp => ?_
    rw [List.mem_singleton] at hp
    subst hp
    exact ⟨hu, nu, Nat.ne_of_gt I1.lt, I1.nofs (Nat.le_refl _), fun v z => by cases z⟩
  generalize h1.objs.size = uu at *
  generalize h1.push (PySem.W.kxs_mw "ValueError.__init__" a) = h2 at *
  dsimp only
  rw [hst]
  refine PySem.W.kxs_callWith (i := "ValueError.__init__") (x := a) rfl (PySem.Calls.evalArgs_plain ?_)
  have hrun := (pa_cons harg pa_nil (by rw [hst]; rfl)).run p3 _ _ σ H (fun vs H1 => H1 = H ∧ vs.length = 1) I3 (hte _ fun v => ⟨rfl, rfl⟩)
  rw [hst] at hrun
  refine thn hrun fun us s4 ⟨ws, H4, I4, rv, e4, hl⟩ => ?_
  subst e4
  have hu4 := (I4.pin (uu, PySem.W.kxs_mw "ValueError.__init__" a) (by simp)).1
  refine ⟨hu4, ?_⟩
  obtain ⟨t4, hx4⟩ := exo_at I4.hok ha
  have hC4 := I4.kIn _ _ hC
  have hlen : us.length ≤ sizeLine := by rw [← Paired.length rv, hl, sizeLine_eq]; decide
  have I5 : Inv X [] σ H4 s4 := I4.pins_of fun p hp => by cases hp
  obtain ⟨h4, g4, d4, tk4, os4⟩ := s4
  refine wpAny_call (codeAny_of_tree ?_)
  show wpAny _ X.A.in1 (callAny (.ref uu) ⟨us, []⟩) _ _ _
  simp only [callAny]
  refine wpAny_bind (wpAny_load hu4 ?_)
  simp only [PySem.W.kxs_mw, show (Value.type "method-wrapper" == Value.type "method" || Value.type "method-wrapper" == Value.type "builtin_function_or_method" || Value.type "method-wrapper" == Value.type "method-wrapper") = true by decide, if_true]
  refine PySem.W.KFB.if_so (by decide) ?_
  refine wpAny_bind (PySem.W.check_bound_init F.excBase_ValueError.toExcCallFacts hC4 hx4 rfl ?_)
  refine wpAny_bind (wpAny_pure (wpAny_pure ?_))
  refine ⟨plainId_quiet F.excBase_ValueError.init.plain _, codeAny_builtin F.excBase_ValueError.initEntry ?_⟩
  refine PySem.W.exc_init_tree (cls := .ref C) (t0 := t4) (dv := none) (c2 := .none) (c3 := .none) (b4 := .bool false) hx4 hlen fun h' k e' t' => ?_
  have J := I5.write (t' := tk4) (x := a) (e := a) (o := exo a C none) (by rw [ha]; exact True.intro) (.inl rfl) k ⟨_, e'⟩ (exo_ok e')
  have eu : upd H4 a (exo a C none) = H4 := by
    funext b
    by_cases hb : b = a
    · rw [hb, upd_same, ha]
    · rw [upd_ne hb]
  rw [eu] at J
  exact ⟨trivial, J⟩
end
end Pf
/-! part Px1 -/
set_option Elab.async false
set_option linter.all false
set_option maxRecDepth 100000
set_option maxHeartbeats 2000000
/-! Px1: the __init__ of such an exception keeps its promise. -/
namespace Pf
open PySem PySem.Spec PyProof.Rows L2 NdefX
section
variable {P : Program} {w : World} {K : PySem.W.Frag} {mg : Str → Option Value} {base : Heap}
/-- super().__init__(arg) -/
abbrev supSt (p0 p1 p2 p3 p4 : Pos) (arg : Expr) : Stmt := .Expr (.Call (.Attribute (.Call (.Name "super" p0) [] [] p1) "__init__" p2) [arg] [] p3) p4
abbrev nfOf (name qual : Str) (params : Arguments) (body : List Stmt) (scope : Scope) (cc cda : Addr) : NF := ⟨name, qual, params, body, scope, [("__class__", cc)], cda⟩
/-- what such an __init__ promises: t, the reading of what stands behind the first row -/
def spSup (N : List Str) (n : Nat) (C : Addr) (t : TS) : Sp := fun vs H Q _ => ∃ (a : Addr) (ws : List V), vs = .ref a :: ws ∧ vs.length = n ∧ H a = some (exo a C none) ∧ t { nx := fun _ H' => Q .non H', rt := Q } (startF N vs [none]) H
theorem fn_sup {C f cc cda : Addr} {ar : Arg} {name qual : Str} {params : Arguments} {rest : List Stmt} {scope : Scope} {dV kV doc pm ct : Value} {an : Option Addr} {N ps : List Str} {k : Nat} {t : TS} {p0 p1 p2 p3 p4 : Pos} {arg : Expr} {te : TE}
    (S : SupOk P K C f cc cda (PySem.W.fnX name qual params (supSt p0 p1 p2 p3 p4 arg :: rest) scope [("__class__", cc)] dV kV doc pm an (.ref cda) ct) ar)
    (hcd : PySem.W.codeIn K (.ref cda) qual = true) (NS : NScope N ps ["__class__"] scope) (hks : scope.names.lookup ("super" : Str) = some .globalImplicit)
    (hka : scope.names.lookup ar.arg = some .local) (hself : N[0]? = some ar.arg)
    (harg : ∀ (A : Around) (outer : List Env) (s : Shared) (H : Hp) (E : XK), PE (ncx (L2N.CX P w) P w K mg base N (nfOf name qual params (supSt p0 p1 p2 p3 p4 arg :: rest) scope cc cda) f A outer s H E) arg te)
    (hte : ∀ (vs : List V) (H : Hp) (Q : VK), vs.length = ps.length → (∀ v, Q v H) → te (startF N vs [none]) H Q)
    (hrest : ∀ (A : Around) (outer : List Env) (s : Shared) (H : Hp) (E : XK), PSs (ncx (L2N.CX P w) P w K mg base N (nfOf name qual params (supSt p0 p1 p2 p3 p4 arg :: rest) scope cc cda) f A outer s H E) rest t)
    (pl : Sem Bool)
    (hst : ∀ env : Env, starEach [arg] env = [(false, eval arg env)] := by intro _; rfl)
    (hsw : ∀ env : Env, swapsWith (.Call (.Attribute (.Call (.Name "super" p0) [] [] p1) "__init__" p2) [arg] [] p3) none p4.line env = pure false := by intro _; rfl)
    (hev : ∀ env : Env, eval (.Call (.Attribute (.Call (.Name "super" p0) [] [] p1) "__init__" p2) [arg] [] p3) env = (do
      let ov ← attributeBase (.Call (.Name "super" p0) [] [] p1) "__init__" env (eval (.Call (.Name "super" p0) [] [] p1) env)
      standAt p2.atName
      let (f, first) ← holding [ov] (getMethod ov "__init__" pl)
      callWith p3 f first (backTo p3 (starEach [arg] env)) []) := by intro _; rfl) :
    FnOk P w K mg base (L2N.CX P w) (k + 1) f (PySem.W.fnX name qual params (supSt p0 p1 p2 p3 p4 arg :: rest) scope [("__class__", cc)] dV kV doc pm an (.ref cda) ct) ps (spSup N ps.length C t) := by
  refine ⟨fun vs H Q E h => ?_, fun A outer s H args us vs Q E hr e0 hb r hsp => ?_⟩
  · obtain ⟨a, ws, _, hl, _⟩ := h; exact hl
  obtain ⟨a, ws, ev, hl, ha, ht⟩ := hsp
  have KX : K.In s.heap := e0.mod.kin.keeps fun b o e => (e0.bs b o e).1
  have lim : s.heap.NoLimit := e0.mod.nolimit.keeps fun b o e => (e0.bs b o e).1
  obtain ⟨oc, od, osl, hlk⟩ := S.lk
  obtain ⟨cl, cld, csl, hcell⟩ := S.cell
  have cells : CellsAt [("__class__", cc)] ["__class__"] [none] s.heap H := by
    have hc := e0.mod.kin _ _ hcell
    have hc2 := e0.bs _ _ hc
    have only : ∀ {y : Str} {c : Addr}, ([("__class__", cc)] : List (Str × Addr)).lookup y = some c → y = "__class__" ∧ c = cc := fun {y c} e => by
      rw [List.lookup_cons] at e
      split at e
      · rename_i q; exact ⟨eq_of_beq q, (Option.some.inj e).symm⟩
      · cases e
    refine ⟨rfl, fun y c e => ?_, fun x y c e1 e2 => (only e1).1.trans (only e2).1.symm, fun i y e => ?_⟩
    · obtain ⟨_, rfl⟩ := only e
      exact ⟨hc2.2, _, _, hc2.1, rfl⟩
    · cases i with
      | zero =>
        have e : some ("__class__" : Str) = some y := e
        cases e
        exact ⟨cc, by rw [List.lookup_cons]; simp, fun v z => by cases z⟩
      | succ i => cases e
  refine PySem.ks_codeAny_call_defAt (fd := PySem.W.fnX name qual params (supSt p0 p1 p2 p3 p4 arg :: rest) scope [("__class__", cc)] dV kV doc pm an (.ref cda) ct) (body := supSt p0 p1 p2 p3 p4 arg :: rest) (binds := ps.zip us) hr.depth (KX _ _ hlk) rfl lim (PySem.W.codeRec_of KX hcd) rfl hb NS.nocell
    (fun ⟨n, _⟩ hy => NS.par n (List.of_mem_zip hy).1) (fun h₁ hns kp => ?_) NS.co NS.gen NS.kind
  have I : Inv (ncx (L2N.CX P w) P w K mg base N (nfOf name qual params (supSt p0 p1 p2 p3 p4 arg :: rest) scope cc cda) f A outer s H E) [] (startF N vs [none]) H { s with heap := h₁, toks := s.toks + (ps.zip us).length } := inv_startN NS hr.hd e0 hl r cells hns kp
  have h0 : (startF N vs [none])[0]? = some (some (.ref a)) := by subst ev; rfl
  have x1 := super_exec (X := ncx (L2N.CX P w) P w K mg base N (nfOf name qual params (supSt p0 p1 p2 p3 p4 arg :: rest) scope cc cda) f A outer s H E) (body := supSt p0 p1 p2 p3 p4 arg :: rest) S I ha rfl rfl (by show ([("__class__", cc)] : List (Str × Addr)).lookup _ = _; rw [List.lookup_cons]; simp) hks (NS.frk _ (by simp)) hka ⟨0, hself, h0⟩ (harg A outer s H E) (fun Q q => hte vs H Q hl q)
    (PySem.W.mg_none_of e0.mod.kin e0.mod.glob S.nos) (hst _) (hsw _) pl (hev _)
  have fin : ∀ {σ' : L2.St} {H' : Hp} {v : V} {u : Value} {s' : Shared}, Inv (ncx (L2N.CX P w) P w K mg base N (nfOf name qual params (supSt p0 p1 p2 p3 p4 arg :: rest) scope cc cda) f A outer s H E) [] σ' H' s' → L2.RelV v u → Q v H' → CE outer P w H s Q u s' :=
    fun {σ' H' v u s'} J rv q => ⟨v, H', J.os, J.bare, J.base, J.hok, rv, q⟩
  refine PySem.ks_wpAt_execs_cons (PySem.ks_wpAt_mono x1 (fun fl s1 ⟨e1, I1⟩ => ?_) fun e s' z => z)
  subst e1
  refine wpAt_of_wpAny (wpAny_mono ((hrest A outer s H E).run [] s1 _ H _ I1 ht) (fun fl s' hs => ?_) fun e s' z => z)
  cases fl with
  | ret u =>
    obtain ⟨v, σ', H', J, rv, q⟩ := hs
    exact fin J rv q
  | next =>
    obtain ⟨σ', H', J, q⟩ := hs
    exact fin (v := V.non) (u := Value.none) J rfl q
  | brk =>
    obtain ⟨_, _, _, q⟩ := hs
    exact False.elim q
  | cont =>
    obtain ⟨_, _, _, q⟩ := hs
    exact False.elim q
end
end Pf
/-! part Px2 -/
set_option Elab.async false
set_option linter.all false
set_option maxRecDepth 100000
set_option maxHeartbeats 2000000
/-! Px2: raise C(..), C an own exception whose __init__ says super().__init__(..) and stores its parameters. -/
namespace Pf
open PySem PySem.Spec PyProof.Rows L2 NdefX
/-- what such an __init__ gives: ix: which argument each attribute holds, the last stored first -/
def spIni (K : PySem.W.Frag) (T : Tab) (c : Nat) (ix : List Nat) (n : Nat) : Sp := fun vs H Q _ => ∃ (a : Addr) (ws : List V), vs = .ref a :: ws ∧ ws.length = n ∧ H a = some (exo a (T.C c) none) ∧
  ∀ dx H2, H dx = none → dx ≠ a → H2 a = some (exo a (T.C c) (some dx)) → H2 dx = some (exd dx ((T.L c).zip (ix.map fun i => ws.getD i .non))) → (∀ b, b ≠ a → b ≠ dx → H2 b = H b) → Q .non H2
/-- C(e, ..), C's own __init__ keeping sp: the exception's context is None -/
theorem pmk_oexN {X : Cx} {e : Expr} {es : List Expr} {ta : TA} {p pos : Pos} {CX : CXT} {x : Str} {C fI : Addr} {k : Nat} {fd : FuncData} {ps : List Str} {sp : Sp} (T : OexC X.K C) (iC : PySem.W.findIn X.K (.ref C) "__init__" = some (some (.ref fI))) (tI : PySem.W.typeIn X.K (.ref fI) = some (.type "function"))
    (F1 : FnOk X.prog X.w X.K X.mg X.base CX k fI fd ps sp) (hr : Room (k + 1) X.A) (hb : Binds X.K fd ps []) (hx : Passes CX X (fun _ _ _ => False)) (hg : Gl X x) (hm : X.mg x = some (.ref C)) (ha : PA X (e :: es) ta)
    (hdb : (x == ("__debug__" : Str)) = false := by decide) (he : starEach (e :: es) X.env = (false, eval e X.env) :: starEach es X.env := by rfl) (hpl : (backTo pos (starEach es X.env)).any (·.1) = false := by rfl) :
    L2N.PMk X (.Call (.Name x p) (e :: es) [] pos) (tMkO C sp [] ta) := by
  intro pins s σ H Q I h
  obtain ⟨nm, q, N, bs, bm, sn, sub, ab, col, dd, k0, k1, k2, k3, k5, hC, hbm⟩ := T.cls
  refine wpAny_Call_Name_kw (ld_glob I hg hm ?_ hdb)
  refine PySem.W.callWith_K (h₀ := X.base) I.ok.mod.kin T.kC (thn (ha.run pos pins s σ H _ I h) fun us s1 ⟨vs, H1, I1, r1, hz, q1⟩ => ⟨I1.kIn, ?_⟩) he hpl
  show wpAny _ _ (call (.ref C) us) _ _ _
  obtain ⟨hp, g, dr, tk, os⟩ := s1
  have hsz : hp.objs.size ≤ hp.objs.size + 1 := Nat.le_succ _
  have hn : H1 (hp.objs.size + 1) = none := I1.hok.fresh hsz
  have hq := q1 (hp.objs.size + 1) hn
  rw [List.append_nil] at hq
  have kk : ∀ b o, hp.get? b = some o → ((hp.push (PySem.W.kdv_tup us)).push (PySem.HandSPX.excO C hp.objs.size)).get? b = some o := fun b o e => Heap.get?_push_of_some _ (Heap.get?_push_of_some _ e)
  have hget : ((hp.push (PySem.W.kdv_tup us)).push (PySem.HandSPX.excO C hp.objs.size)).get? (hp.objs.size + 1) = some (PySem.HandSPX.excO C hp.objs.size) := by heap_get
  have I2 : Inv X pins σ (upd H1 (hp.objs.size + 1) (exo (hp.objs.size + 1) C none)) ⟨(hp.push (PySem.W.kdv_tup us)).push (PySem.HandSPX.excO C hp.objs.size), g, dr, tk, os⟩ :=
    I1.laid (t' := tk) (a := hp.objs.size + 1) (o := exo (hp.objs.size + 1) C none) (h' := (hp.push (PySem.W.kdv_tup us)).push (PySem.HandSPX.excO C hp.objs.size)) kk hsz (exo_ok hget)
  have r2 : Vals (V.ref (hp.objs.size + 1) :: vs) (Value.ref (hp.objs.size + 1) :: us) := .cons rfl r1
  have hl : (Value.ref (hp.objs.size + 1) :: us ++ []).length = ps.length := by
    have e := r2.length
    rw [F1.len _ _ _ _ hq] at e
    rw [List.append_nil]
    exact e.symm
  have hus : us.length ≤ sizeLine := by
    rw [← Paired.length r1, sizeLine_eq]
    omega
  have b2 := hb _ (Value.ref (hp.objs.size + 1) :: us) I2.kIn hl
  rw [List.append_nil] at b2
  refine wpAny_call (PySem.HandSPX.call_own F.excBase_ValueError (fun Y => PySem.HandSPX.refsVE_contains Y bm hbm) (I1.kIn _ _ hC) (PySem.W.looks_findIn I1.kIn iC) (fun self => PySem.W.bind_fn I1.kIn self tI) hus
    (codeAny_mono (F1.run _ X.stack _ _ ⟨Value.ref (hp.objs.size + 1) :: us, []⟩ (Value.ref (hp.objs.size + 1) :: us) _ _ (fun _ _ _ => False) (hr.make C us []) (I2.env0.make C us []) b2 r2 hq) fun r s' hq' => ?_))
  cases r with
  | error er => exact hx pins σ _ _ er s' I2 hq'
  | ok fl =>
    cases fl with
    | ret u =>
      obtain ⟨v, H2, os2, bare2, un2, hok2, rv, ev, d, fs, ea, ed, hd1, q2⟩ := hq'
      subst ev
      obtain ⟨h2, g2, d2, t2, os'⟩ := s'
      obtain ⟨t0, G, J, kG, ge, hoe, na⟩ := mk_end0 (d2 := d2) (t2 := t2) I1 hsz kk un2 hok2 os2 bare2 ea ed hd1
      refine ⟨rv, ⟨hp.objs.size + 1, _, _, ⟨G, g2, d2, t2, os'⟩, _, .ref C, some d, rfl, J, kG, ge, hoe, ⟨rfl, rfl, fun vs hv => ?_⟩, rfl, rfl, na, rfl, bare2, raises_own T.exC T.tyC, q2⟩⟩
      cases hv
      rfl
    | next => exact False.elim hq'
    | brk => exact False.elim hq'
    | cont => exact False.elim hq'
/-- what is told of the class -/
structure RaisOk (P : Program) (w : World) (K : PySem.W.Frag) (mg : Str → Option Value) (base : Heap) (T : Tab) (c : Nat) (ix : List Nat) (n : Nat) : Prop where
  cls : OexC K (T.C c)
  len : ix.length = (T.L c).length
  low : ∀ i ∈ ix, i < n
  ini : ∃ (fI : Addr) (fd : FuncData) (ps : List Str), PySem.W.findIn K (.ref (T.C c)) "__init__" = some (some (.ref fI)) ∧ PySem.W.typeIn K (.ref fI) = some (.type "function") ∧ Binds K fd ps [] ∧ FnOk P w K mg base (L2N.CX P w) 1 fI fd ps (spIni K T c ix n)
section
variable {X : Cx} {B : Bs} {K : PySem.W.Frag} {G H : Hp} {σ : L2.St} {ρ : Ve} {e : Expr} {es : List Expr}
def sRaise (c : Nat) (ix : List Nat) (os : List Opd) : SF := fun ρ => match evOs os ρ with
  | .ok hs ρ1 => match vals hs with
    | some ds => .ex (.ins c (ix.map fun i => ds.getD i .non)) ρ1
    | none => .no
  | .ex x ρ1 => .ex x ρ1
  | .no => .no
theorem RepL.pick {T : Tab} {ds : List D} {vs : List V} (r : RepL K T G ds vs) : ∀ (ix : List Nat), (∀ i ∈ ix, i < ds.length) → RepL K T G (ix.map fun i => ds.getD i .non) (ix.map fun i => vs.getD i .non)
  | [], _ => rfl
  | i :: ix, h => by
    have hi := h i (List.mem_cons_self ..)
    have hd : ds[i]? = some (ds.getD i .non) := by rw [List.getD_eq_getElem?_getD, List.getElem?_eq_getElem hi]; rfl
    obtain ⟨v, hv, rv⟩ := r.get hd
    have hv2 : vs.getD i .non = v := by rw [List.getD_eq_getElem?_getD, hv]; rfl
    exact ⟨_, _, rfl, by show Rep K T G _ (vs.getD i .non); rw [hv2]; exact rv, RepL.pick r ix fun j hj => h j (List.mem_cons_of_mem _ hj)⟩
theorem ps_rs [xk : XOk X B] {c n : Nat} {ix : List Nat} {os : List Opd} {x : Str} {p pos pos' : Pos} (hc : X.calm = true) (R : RaisOk X.prog X.w X.K X.mg X.base B.T c ix n) (hr : Room 2 X.A) (hg : Gl X x) (hm : X.mg x = some (.ref (B.T.C c)))
    (ha : PA X (e :: es) (tOs X.K B os)) (hn : os.length = n := by rfl) (hz : n ≤ 1000 := by decide) (hdb : (x == ("__debug__" : Str)) = false := by decide) (he : starEach (e :: es) X.env = (false, eval e X.env) :: starEach es X.env := by rfl) (hpl : (backTo pos (starEach es X.env)).any (·.1) = false := by rfl) :
    PS X (.Raise (some (.Call (.Name x p) (e :: es) [] pos)) none pos') (tS X.K B (sRaise c ix os)) := by
  obtain ⟨W, tk, hW⟩ := xk.ok
  obtain ⟨fI, fd, ps, iC, tI, hb, F⟩ := R.ini
  refine PS.imp (L2N.ps_raise hc tk (pmk_oexN R.cls iC tI F hr hb (fun pins σ H s e s' I c => passN pins σ H s e s' I c) hg hm ha hdb he hpl)) fun Dn σ H ⟨G, ρ, S, q⟩ => ?_
  unfold tMkO
  refine tOs_run S ?_
  dsimp only [sRaise] at q
  cases h1 : evOs os ρ with
  | ok hs ρ1 =>
    rw [h1] at q
    intro G1 H1 vs e1 S1 k1
    dsimp only at q
    cases h2 : vals hs with
    | none => rw [h2] at q; exact q.elim
    | some ds =>
      rw [h2] at q
      have hl : vs.length = n := by rw [k1.len, evOs_len h1, hn]
      refine ⟨by rw [hl]; exact hz, fun a hna => ?_⟩
      rw [List.append_nil]
      refine ⟨a, vs, rfl, hl, upd_same, fun dx H2 hdx ne h2a h2d h2o => ⟨rfl, dx, _, h2a, h2d, by rw [upd_ne ne] at hdx; exact hdx, ?_⟩⟩
      rw [upd_ne ne] at hdx
      have eH : upd (del H2 a) dx (.xd ((B.T.L c).zip (ix.map fun i => vs.getD i .non))) = upd H1 dx (.xd ((B.T.L c).zip (ix.map fun i => vs.getD i .non))) := by
        funext b
        by_cases hb' : b = dx
        · rw [hb', upd_same, upd_same]
        · rw [upd_ne hb', upd_ne hb']
          by_cases hba : b = a
          · rw [hba, del_same, hna]
          · rw [del_ne hba, h2o b hba hb', upd_ne hba]
      rw [eH]
      have hrl : RepL X.K B.T G1 ds vs := vals_ok k1 h2
      exact hW G1 _ σ ρ1 _ _ _ (S1.grow (Grow.own S1.ex hdx)) q ⟨rfl, _, upd_same, by rw [List.length_map]; exact R.len, RepL.pick hrl ix fun i hi => by rw [← hrl.len, hl]; exact R.low i hi⟩
  | ex y ρ1 =>
    rw [h1] at q
    exact q
  | no => rw [h1] at q; exact q.elim
end
end Pf
/-! part Ph0 -/
set_option Elab.async false
set_option linter.all false
set_option maxRecDepth 100000
set_option maxHeartbeats 2000000
/-! Ph0: while an exception is handled: the ends of lists and tuples, tuples as targets. -/
namespace Pf
open PySem PySem.Spec PyProof.Rows L2 HotX
section
variable {prog : Program} {w : World} {A : Around} {E : Value → Shared → Prop} {s : Shared}
theorem _root_.HotX.HotAt.other {x1 it : Addr} {h : Heap} {f : Obj → Obj} (hot : HotAt A x1 h) (ne : it ≠ x1) : HotAt A x1 (h.update it f) := by
  obtain ⟨hh, o, vs, e, d, c⟩ := hot
  exact ⟨hh, o, vs, by rw [Heap.get?_update_other _ _ ne]; exact e, d, c⟩
theorem _root_.HotX.HotAt.push {x1 : Addr} {h : Heap} {o : Obj} (hot : HotAt A x1 h) : HotAt A x1 (h.push o) := by
  obtain ⟨hh, o1, vs, e, d, c⟩ := hot
  exact ⟨hh, o1, vs, Heap.get?_push_of_some _ e, d, c⟩
theorem _root_.HotX.HotAt.lt {x1 : Addr} {h : Heap} (hot : HotAt A x1 h) : x1 < h.objs.size := by
  obtain ⟨hh, o1, vs, e, d, c⟩ := hot
  exact Heap.lt_size e
theorem pyNext_list_end_hot {it l x1 : Addr} {i : Nat} {items} {Q : Option Value → Shared → Prop} (hot : HotAt A x1 s.heap) (hne : it ≠ x1)
    (hit : s.heap.IsListIter it l i) (hl : s.heap.IsList l items) (hx : items[i]? = none)
    (hQ : ∀ h', (∀ b o, b ≠ it → s.heap.get? b = some o → h'.get? b = some o) → Q none { s with heap := h' }) : wpAny (model prog w) A (pyNext (.ref it)) Q E s := by
  obtain ⟨o, ho, hc, hd⟩ := id hit
  obtain ⟨ol, hol, _, nl, hdl⟩ := hl
  unfold pyNext
  refine wpAny_bind (wpAny_attempt (wpAny_callSpecial?_slot (name := Str.ofString "__next__") hit.typeIs slot_listiter_next
    (wpAny_call_entry slot_listiter_next hit.typeIs entry_listiter_next ?_ (args_listiter_next _))))
  show wpAny _ _ (field (.ref it) 0 >>= _) _ _ s
  refine wpAny_bind (wpAny_field ho hd (x := .ref l) rfl ?_)
  show wpAny _ _ (if (Value.ref l == Value.none) = true then _ else _) _ _ s
  rw [if_neg (show ¬ ((Value.ref l == Value.none) = true) from Bool.false_ne_true)]
  show wpAny _ _ (field (.ref it) 1 >>= _) _ _ s
  refine wpAny_bind (wpAny_field ho hd (x := .int i 0) rfl ?_)
  show wpAny _ _ (seqItems? (.ref l) >>= _) _ _ s
  refine wpAny_bind (wpAny_seqItems hol hdl ?_)
  simp only [Int.toNat_natCast, hx]
  refine wpAny_bind (wpAny_rule (wpAny_bind (wpAny_setField ho hd (by simp) ?_)))
  show wpAny _ _ (newExc (.type "StopIteration") [] >>= _) _ _ _
  refine wpAny_bind ?_
  simp only [newExc, newTuple]
  refine wpAny_bind (wpAny_newObj_type ?_ (by size_fits))
  refine wpAny_bind (m := firstArgMember _ _) (wpAny_of_eq (a := Value.none) (by first | rfl | (simp only [firstArgMember]; rfl)) ?_)
  refine wpAny_newObj_type ?_ (by size_fits)
  have hot1 := ((HotX.HotAt.other (f := Obj.mapFields (·.setIfInBounds 0 Value.none)) hot hne).push (o := { cls := .type "tuple", data := .seq #[] }))
  refine raiseNew_hot hot1.push (Nat.ne_of_lt hot1.lt) (Heap.get?_push_size _ rfl) rfl (by first | (simp; done) | (simp; omega) | (simp only [Array.size_append]; simp; omega)) ?_
  refine wpAny_bind (wpAny_isInstance (T := "StopIteration") (b := true) ⟨_, Heap.get?_update_self _ (Heap.get?_push_size _ rfl) rfl, rfl⟩ isSubtype_stop ?_)
  refine wpAny_pure (hQ _ fun b o hb e => ?_)
  have e1 : (s.heap.update it (Obj.mapFields (·.setIfInBounds 0 Value.none))).get? b = some o := by rw [Heap.get?_update_other _ _ (Ne.symm hb)]; exact e
  rw [Heap.get?_update_other _ _ (Nat.ne_of_gt (Heap.lt_size (Heap.get?_push_of_some _ e1)))]
  exact Heap.get?_push_of_some _ (Heap.get?_push_of_some _ e1)
theorem pyNext_tuple_end_hot {it t x1 : Addr} {i : Nat} {items} {Q : Option Value → Shared → Prop} (hot : HotAt A x1 s.heap) (hne : it ≠ x1)
    (hit : s.heap.IsTupleIter it t i) (ht : s.heap.IsTuple t items) (hx : items[i]? = none)
    (hQ : ∀ h', (∀ b o, b ≠ it → s.heap.get? b = some o → h'.get? b = some o) → Q none { s with heap := h' }) : wpAny (model prog w) A (pyNext (.ref it)) Q E s := by
  obtain ⟨o, ho, hc, hd⟩ := id hit
  obtain ⟨ol, hol, _, nl, hdl⟩ := ht
  unfold pyNext
  refine wpAny_bind (wpAny_attempt (wpAny_callSpecial?_slot (name := Str.ofString "__next__") hit.typeIs F.slot_tuple_iterator_next
    (wpAny_call_entry F.slot_tuple_iterator_next hit.typeIs F.entry_tuple_iterator_next ?_ (F.args_tuple_iterator_next_1 _))))
  show wpAny _ _ (field (.ref it) 0 >>= _) _ _ s
  refine wpAny_bind (wpAny_field ho hd (x := .ref t) rfl ?_)
  show wpAny _ _ (if (Value.ref t == Value.none) = true then _ else _) _ _ s
  rw [if_neg (show ¬ ((Value.ref t == Value.none) = true) from Bool.false_ne_true)]
  show wpAny _ _ (field (.ref it) 1 >>= _) _ _ s
  refine wpAny_bind (wpAny_field ho hd (x := .int i 0) rfl ?_)
  show wpAny _ _ (seqItems? (.ref t) >>= _) _ _ s
  refine wpAny_bind (wpAny_seqItems hol hdl ?_)
  simp only [Int.toNat_natCast, hx]
  refine wpAny_bind (wpAny_rule (wpAny_bind (wpAny_setField ho hd (by simp) ?_)))
  show wpAny _ _ (newExc (.type "StopIteration") [] >>= _) _ _ _
  refine wpAny_bind ?_
  simp only [newExc, newTuple]
  refine wpAny_bind (wpAny_newObj_type ?_ (by size_fits))
  refine wpAny_bind (m := firstArgMember _ _) (wpAny_of_eq (a := Value.none) (by first | rfl | (simp only [firstArgMember]; rfl)) ?_)
  refine wpAny_newObj_type ?_ (by size_fits)
  have hot1 := ((HotX.HotAt.other (f := Obj.mapFields (·.setIfInBounds 0 Value.none)) hot hne).push (o := { cls := .type "tuple", data := .seq #[] }))
  refine raiseNew_hot hot1.push (Nat.ne_of_lt hot1.lt) (Heap.get?_push_size _ rfl) rfl (by first | (simp; done) | (simp; omega) | (simp only [Array.size_append]; simp; omega)) ?_
  refine wpAny_bind (wpAny_isInstance (T := "StopIteration") (b := true) ⟨_, Heap.get?_update_self _ (Heap.get?_push_size _ rfl) rfl, rfl⟩ isSubtype_stop ?_)
  refine wpAny_pure (hQ _ fun b o hb e => ?_)
  have e1 : (s.heap.update it (Obj.mapFields (·.setIfInBounds 0 Value.none))).get? b = some o := by rw [Heap.get?_update_other _ _ (Ne.symm hb)]; exact e
  rw [Heap.get?_update_other _ _ (Nat.ne_of_gt (Heap.lt_size (Heap.get?_push_of_some _ e1)))]
  exact Heap.get?_push_of_some _ (Heap.get?_push_of_some _ e1)
theorem _root_.HotX.HotAt.keep {x1 : Addr} {h h' : Heap} (hot : HotAt A x1 h) (k : ∀ o, h.get? x1 = some o → h'.get? x1 = some o) : HotAt A x1 h' := by
  obtain ⟨hh, o1, vs, e, d, c⟩ := hot
  exact ⟨hh, o1, vs, k _ e, d, c⟩
theorem unpackItems_tuple_hot {t x1 : Addr} {items : Array Value} {Q : List Value → Shared → Prop} (hot : HotAt A x1 s.heap) (ht : s.heap.IsTuple t items)
    (hQ : ∀ h', Heap.ExtBut s.heap.objs.size s.heap h' → Q items.toList { s with heap := h' }) : wpAny (model prog w) A (unpackItems (.ref t) items.size none) Q E s := by
  have hlt : t ≠ s.heap.objs.size := by obtain ⟨o, ho, _⟩ := ht; exact Nat.ne_of_lt (Heap.lt_size ho)
  have hlx : s.heap.objs.size ≠ x1 := Nat.ne_of_gt hot.lt
  unfold unpackItems
  refine wpAny_bind ?_
  unfold notIterableAtAll
  refine wpAny_bind (wpAny_specialOf ht.typeIs F.slot_tuple_iter.lookup ?_)
  refine wpAny_pure ?_
  simp only [Bool.false_eq_true, if_false]
  refine wpAny_bind (wpAny_holding (wpAny_pyIter_tuple ht ?_))
  refine wpAny_bind (wpAny_holding (wpAny_draw_tuple hlt items.size 0 _ _ ⟨_, Heap.get?_push_size _ rfl, rfl, rfl⟩ (ht.push _) (by omega) fun h₁ hit₁ hs₁ => ?_))
  have hall : List.take items.size (List.drop 0 items.toList) = items.toList := by
    rw [List.drop_zero]; exact List.take_of_length_le (by simp)
  rw [hall]
  rw [if_neg (by simp)]
  have ht₁ : h₁.IsTuple t items := (ht.push _).extBut hs₁.extBut hlt
  have hot₁ : HotAt A x1 h₁ := (HotX.HotAt.push hot).keep fun o e => hs₁.extBut _ o (Ne.symm hlx) e
  refine wpAny_bind (wpAny_holding (pyNext_tuple_end_hot hot₁ hlx hit₁ ht₁ (by simp) fun h₂ he₂ => ?_))
  simp only [Option.isSome_none, Bool.false_eq_true, if_false]
  refine wpAny_pure (hQ h₂ fun b o hb e => he₂ b o hb (hs₁.extBut b o hb (Heap.get?_push_of_some _ e)))
theorem assign_Tuple_hot {env : Env} {elts : List Expr} {k1} {pos : Pos} {t x1 : Addr} {items : Array Value} {Q : Unit → Shared → Prop} (hot : HotAt A x1 s.heap) (ht : s.heap.IsTuple t items)
    (hn : (assignEach elts env).length = items.size) (hstar : (assignEach elts env).findIdx? (·.1) = none)
    (h : ∀ h', Heap.ExtBut s.heap.objs.size s.heap h' → wpAny (model prog w) A (assignInOrder ((assignEach elts env).map (·.2)) items.toList) Q E { s with heap := h' }) :
    wpAny (model prog w) A (assign (.Tuple elts k1 pos) env (.ref t)) Q E s := by
  rw [arm_assign_Tuple]
  refine wpAny_bind (wpAny_standAt ?_)
  unfold unpack
  rw [hn, hstar]
  exact wpAny_bind (wpAny_holding (unpackItems_tuple_hot hot ht h))
end
end Pf
/-! part Ph1 -/
set_option Elab.async false
set_option linter.all false
set_option maxRecDepth 100000
set_option maxHeartbeats 2000000
/-! Ph1: while an exception is handled: comprehensions over a list. -/
namespace Pf
open PySem PySem.Spec PyProof.Rows L2 HotX
/-- the context is hot: p is the exception that is handled -/
structure HotZ (X : Cx) (p : Addr × Obj) : Prop where
  hot : L2H.Hot1 X.A p
  at_ : ∀ pins σ H s, Inv X pins σ H s → s.heap.get? p.1 = some p.2 ∧ H p.1 = none
section
variable {X : Cx} {p : Addr × Obj} {pins : List (Addr × Obj)} {σ : L2.St} {H : Hp} {s : Shared} {pos : Pos}
theorem hotZ_of (h : L2H.Hot1 X.A p) (hp : p ∈ X.pn) : HotZ X p := ⟨h, fun pins σ H s I => ⟨(I.pin p (List.mem_append_left _ hp)).1, (I.pin p (List.mem_append_left _ hp)).2.1⟩⟩
theorem HotZ.c (Z : HotZ X p) (I : Inv X pins σ H s) : HotAt X.A p.1 s.heap := by
  obtain ⟨hh, v1, e1, c1⟩ := Z.hot
  exact ⟨hh, p.2, v1, (Z.at_ _ _ _ _ I).1, e1, c1⟩
theorem pg_tupZ {es : List Expr} {k : Nat} {t : TGs} {n : Nat} (Z : HotZ X p) (h : PGs X es t)
    (hn : (assignEach es X.env).length = n := by rfl) (hst : (assignEach es X.env).findIdx? (·.1) = none := by rfl) : PG X (.Tuple es k pos) (gTup X.K n t) := by
  refine ⟨fun pins s σ H v u Q I r hw => ?_⟩
  obtain ⟨a, xs, e1, hq, hl, hw⟩ := hw
  subst e1
  cases r
  obtain ⟨its, rv, ht, hz⟩ := I.tuple hq
  refine assign_Tuple_hot (Z.c I) ht (by simp [hn, ← hl, rv.length]) hst fun h' hx => ?_
  have I1 : Inv X pins σ H { s with heap := h' } := I.kept (t' := s.toks) fun b o e => hx b o (Nat.ne_of_lt (Heap.lt_size e)) e
  exact h.run pins _ σ H xs _ Q I1 (by simpa using rv) hw
theorem item_list {tg : Expr} {a it : Addr} {i : Nat} {E : Value → Shared → Prop} (I : Inv X pins σ H s) (hf : FpOk X pins H it) (st : s.heap.IsListIter it a i) (hg : (Itl X.K a).go i H) :
    wpAny (model X.prog X.w) X.A (pyNext (.ref it)) (fun r s1 => ∃ u, r = some u ∧
      wpAny (model X.prog X.w) X.A (letOwnedTupleGo tg (.ref it) u) (fun _ s2 => ∃ x H', Inv X pins σ H' s2 ∧ RelV x u ∧ (Itl X.K a).yld i H x H' ∧ s2.heap.IsListIter it a (i + 1) ∧ H' it = none) E s1) E s := by
  obtain ⟨xs, x, hq, hx⟩ := hg
  obtain ⟨its, rv, q, hz⟩ := I.list hq
  obtain ⟨u, hu, ru⟩ := rv.get hx
  obtain ⟨f0, f1, f2, f3, f4, f5⟩ := hf
  refine wpAny_pyNext_list_item st q.isList (x := u) (by simpa using hu) fun h' st' sb => ?_
  have I1 : Inv X pins σ H { s with heap := h' } := I.turned (t' := s.toks) (fun b o hb e => (sb.2 b hb).trans e) f0 f1 f3 f4 f5
  obtain ⟨o, e, c, d⟩ := id st'
  exact ⟨u, rfl, go_of (s := { s with heap := h' }) e c d (by decide) ⟨x, H, I1, ru, ⟨rfl, fun ys hy => by rw [I.list_inj hy hq]; exact hx⟩, st', f0⟩⟩
theorem done_list {a it : Addr} {i : Nat} {E : Value → Shared → Prop} (Z : HotZ X p) (hne : it ≠ p.1) (I : Inv X pins σ H s) (hf : FpOk X pins H it) (st : s.heap.IsListIter it a i) (hg : (Itl X.K a).stop i H) :
    wpAny (model X.prog X.w) X.A (pyNext (.ref it)) (fun r s1 => r = none ∧ Inv X pins σ H s1) E s := by
  obtain ⟨xs, hq, hx⟩ := hg
  obtain ⟨its, rv, q, hz⟩ := I.list hq
  obtain ⟨f0, f1, f2, f3, f4, f5⟩ := hf
  have hl := rv.length
  exact pyNext_list_end_hot (Z.c I) hne st q.isList (by simp; omega) fun h' eb => ⟨rfl, I.turned (t' := s.toks) (fun b o hb e => eb b o hb e) f0 f1 f3 f4 f5⟩
theorem lc_coreZ {Q : VK} {elt tg iter : Expr} {ifs : List Expr} {scope : Scope} {own : List (Str × Nat)} {pos pos' : Pos} {tl : TE} {g : TG} {tt : TT} {te : TE} {use : Option (Value → Sem Unit)} {Qf : Value → Shared → Prop}
    (hp1 : L2H.Hot1 X.A p) (hpm : p ∈ X.pn) (hN : X.N.Nodup) (I : Inv X pins σ H s) (hi : PE X iter tl) (ok : BlkOk X.N X.env.scope scope own)
    (hg : ∀ (s : Shared) (H : Hp) (C : Addr) (cl : List (Str × Addr)) (fp : List Addr), HotZ (X.blk s H scope (compEnvC scope cl C X.env) fp) p → PG (X.blk s H scope (compEnvC scope cl C X.env) fp) tg g) (ht : ∀ (s : Shared) (H : Hp) (C : Addr) (cl : List (Str × Addr)) (fp : List Addr), PTs (X.blk s H scope (compEnvC scope cl C X.env) fp) ifs tt)
    (he : ∀ (s : Shared) (H : Hp) (C : Addr) (cl : List (Str × Addr)) (fp : List Addr), PE (X.blk s H scope (compEnvC scope cl C X.env) fp) elt te) (hs : ∀ x, foldedSetIterable iter X.env x = pure x)
    (h : tLc (iList X.K tl) g tt te (own.map (·.2)) σ H Q)
    (hRR : ∀ D C s' m H', Inv X pins σ H' s' → Q (.ref D) H' → s'.heap.Ns C m → FpOk X pins H' C → compPost (model X.prog X.w) X.A X.xe use Qf (.ref D) C (.ok .next) s') :
    wpAny (model X.prog X.w) X.A (comprehension (.ListComp elt [⟨tg, iter, ifs, 0⟩] scope pos) scope X.env pos' (newList []) false (eval iter X.env) use) Qf X.xe s := by
  have hfree : ∀ y ∈ scope.names, y.2 = .free → ∃ c, X.env.cells.lookup y.1 = some c := fun y hy e => by
    rcases ok.free y hy e with k | k
    · exact I.ok.has _ (.inl k)
    · exact I.ok.has _ (.inr k)
  refine wpAny_comprehension_free (use := use) rfl hs (closure_ok hfree) ok.kind (fun y hy e => by rw [ok.uniq y hy, e])
    (thn (hi.run pins s σ H _ I h) fun xv s1 ⟨x, H1, I1, r1, q1⟩ => ?_)
  obtain ⟨a, e, ⟨xs0, hq0⟩, q⟩ := q1
  subst e
  cases r1
  obtain ⟨its0, rv0, p0, hz0⟩ := I1.list hq0
  refine wpAny_pyIter_list p0.isList ?_
  generalize hit0 : s1.heap.objs.size = it
  generalize hs2 : ({ s1 with heap := s1.heap.push { cls := .type "list_iterator", data := .fields #[.ref a, .int 0 0] } } : Shared) = s2
  have I2 : Inv X pins σ H1 s2 := by rw [← hs2]; exact I1.kept (t' := s1.toks) fun b o e => Heap.get?_push_of_some _ e
  have st2 : s2.heap.IsListIter it a 0 := by rw [← hs2, ← hit0]; exact ⟨_, Heap.get?_push_size _ rfl, rfl, rfl⟩
  have f2 : FpOk X pins H1 it := by rw [← hit0]; exact I1.fpOk (Nat.le_refl _) (I1.hok.fresh (Nat.le_refl _))
  have nit : it ≠ p.1 := fun z => f2.2.2.2.2.2 p (List.mem_append_left _ hpm) z.symm
  have obj : ∀ {i : Nat} {hh : Heap}, hh.IsListIter it a i → ∃ o, hh.get? it = some o ∧ ∀ v, o.data ≠ .cell v := fun {i hh} st => by
    obtain ⟨o, e, c, d⟩ := st
    exact ⟨o, e, fun v z => by rw [d] at z; cases z⟩
  have keep : ∀ {i : Nat} {h1 h2 : Heap}, h1.IsListIter it a i → (∀ o, h1.get? it = some o → h2.get? it = some o) → h2.IsListIter it a i := fun {i h1 h2} st k => st.at fun o e => k o e
  refine wpAny_newObj_type (newEnv_comp ?_) (by show 0 ≤ sizeLine; decide)
  generalize hD : s2.heap.objs.size = D
  have hDn : H1 D = none := I2.hok.fresh (Nat.le_of_eq hD)
  obtain ⟨W, ⟨m0, w0⟩, turn⟩ := q D hDn
  generalize hs3 : ({ s2 with heap := s2.heap.push { cls := .type "list", data := .seq ([] : List Value).toArray } } : Shared) = s3
  have I3 : Inv X pins σ (upd H1 D (.lst [])) s3 := by
    rw [← hs3]
    refine I2.laid (t' := s2.toks) (fun b o e => Heap.get?_push_of_some _ e) (Nat.le_of_eq hD) ⟨Nat.zero_le _, [], 0, .nil, ?_⟩
    rw [← hD]
    exact Heap.get?_push_size _ rfl
  have h3 : s3.heap = s2.heap.push { cls := .type "list", data := .seq ([] : List Value).toArray } := by rw [← hs3]
  have sz : it < s2.heap.objs.size := by
    obtain ⟨o, e, _⟩ := obj st2
    exact Heap.lt_size e
  have f3 : ∀ b ∈ [it], FpOk X pins (upd H1 D (.lst [])) b ∧ b < s3.heap.objs.size := fun b hb => by
    have e : b = it := by simpa using hb
    subst e
    refine ⟨⟨?_, f2.2⟩, by rw [h3, Heap.size_push]; exact Nat.lt_succ_of_lt sz⟩
    rw [upd_ne (by rw [← hD]; exact Nat.ne_of_lt sz)]
    exact f2.1
  have st3 : s3.heap.IsListIter it a 0 := keep st2 fun o e => by rw [h3]; exact Heap.get?_push_of_some _ e
  have I4 := block_start I3 ok hN f3
  have P3 := I3.pin p (List.mem_append_left _ hpm)
  have hotB : HotZ (X.blk s3 (upd H1 D (.lst [])) scope (compEnvC scope (cellsFrom (s3.heap.objs.size + 1) scope.names (cloFrom X.env.cells scope.names [])) s3.heap.objs.size X.env) [it]) p := by
    refine ⟨hp1, fun pins' σ' H' s' I' => ?_⟩
    have nfs : p.1 ∉ frs X.stack := fun hm => (List.mem_cons.mp (I3.stkSub p.1 hm)).elim P3.2.2.1 P3.2.2.2.1
    have nex : p.1 ∉ [it] := fun hm => nit (by simpa using hm : p.1 = it).symm
    exact ⟨I'.base.keep p.1 p.2 P3.1 P3.2.1 nfs nex, I'.base.free p.1 p.2 P3.1 P3.2.1 nex⟩
  have pg := hg s3 (upd H1 D (.lst [])) s3.heap.objs.size (cellsFrom (s3.heap.objs.size + 1) scope.names (cloFrom X.env.cells scope.names [])) [it] hotB
  have pt := ht s3 (upd H1 D (.lst [])) s3.heap.objs.size (cellsFrom (s3.heap.objs.size + 1) scope.names (cloFrom X.env.cells scope.names [])) [it]
  have pe := he s3 (upd H1 D (.lst [])) s3.heap.objs.size (cellsFrom (s3.heap.objs.size + 1) scope.names (cloFrom X.env.cells scope.names [])) [it]
  show codeAny _ _ (.compStart (.ListComp elt [⟨tg, iter, ifs, 0⟩] scope pos) 0 (.ref it) (.ref D) (compEnvC scope (cellsFrom (s3.heap.objs.size + 1) scope.names (cloFrom X.env.cells scope.names [])) s3.heap.objs.size X.env)) (compPost (model X.prog X.w) X.A X.xe use Qf (.ref D) s3.heap.objs.size) { s3 with heap := pushCells (s3.heap.push { cls := .type "dict", data := .dict #[] }) scope.names }
  have nfp : (upd H1 D (.lst [])) it = none := (f3 it (by simp)).1.1
  generalize hce : compEnvC scope (cellsFrom (s3.heap.objs.size + 1) scope.names (cloFrom X.env.cells scope.names [])) s3.heap.objs.size X.env = ce at I4 pg pt pe hotB ⊢
  have cL : ce.locals = s3.heap.objs.size := by subst hce; rfl
  generalize hH3 : upd H1 D (.lst []) = H3 at I3 I4 pg pt pe w0 nfp f3 hotB
  generalize hs4 : ({ s3 with heap := pushCells (s3.heap.push { cls := .type "dict", data := .dict #[] }) scope.names } : Shared) = s4 at I4 ⊢
  have st4 : s4.heap.IsListIter it a 0 := keep st3 fun o e => by rw [← hs4]; exact pushCells_keeps _ _ _ _ (Heap.get?_push_of_some _ e)
  have stat : ∀ {σ' : L2.St} {H' : Hp} {s' : Shared}, Inv (X.blk s3 H3 scope ce [it]) [] σ' H' s' → H' it = none → FpOk (X.blk s3 H3 scope ce [it]) [] H' it := fun {σ' H' s'} I' hn =>
    have hb : it ∈ [it] := by simp
    ⟨hn, (I'.ok.exf it hb).1, I'.ok.exfs it hb, .inl hb, fun x c e => (I'.ok.exf it hb).2 x c e, fun p hp => absurd (show p ∈ ([] : List (Addr × Obj)) ++ [] from hp) (by simp)⟩
  have loop : codeAny (model X.prog X.w) X.A (.compLoop (.ListComp elt [⟨tg, iter, ifs, 0⟩] scope pos) 0 (.ref it) (.ref D) ce) (compPost (model X.prog X.w) X.A X.xe use Qf (.ref D) s3.heap.objs.size) s4 := by
    refine compLoop_any (fun n s' => ∃ i H', Inv (X.blk s3 H3 scope ce [it]) [] (wipe σ (own.map (·.2))) H' s' ∧ s'.heap.IsListIter it a i ∧ H' it = none ∧ W i n H') ?_ m0 ⟨0, H3, I4, st4, nfp, w0⟩
    rintro n s5 ⟨i, H5, I5, st5, n5, w5⟩
    rcases turn i n H5 w5 with ⟨stop, qq⟩ | ⟨go, Nx, hNx, step⟩
    · have td := done_list (E := fun _ _ => False) hotB nit I5 (stat I5 n5) st5 stop
      refine thnF td fun r s6 ⟨hr, I6⟩ => ?_
      subst hr
      have I7 : Inv X pins σ H5 s6 := I3.call' (ch := [it]) I6.os I6.base I6.hok I6.bare fun b hb => ⟨(f3 b hb).1.2.2.2.1, (f3 b hb).1.2.1, (f3 b hb).1.2.2.2.2.1, (f3 b hb).1.2.2.2.2.2⟩
      have nC : H5 s3.heap.objs.size = none := by
        have z : H5 ce.locals = none := I6.free
        rw [cL] at z
        exact z
      obtain ⟨m, hn, _⟩ := I6.loc
      have hn : s6.heap.Ns ce.locals m := hn
      rw [cL] at hn
      exact hRR D s3.heap.objs.size s6 m H5 I7 qq hn (I3.fpOk (Nat.le_refl _) nC)
    · have ti := item_list (tg := tg) (E := fun _ _ => False) I5 (stat I5 n5) st5 go
      refine thnF ti fun r s6 ⟨u, hr, h6⟩ => ?_
      subst hr
      refine thnF h6 fun _ s7 ⟨x, H7, I7, r7, y7, st7, n7⟩ => ?_
      have I7' := I7.pinned (fp := [it]) (fun b hb => by have e : b = it := by simpa using hb
                                                         subst e; exact stat I7 n7) (fun b hb => by have e : b = it := by simpa using hb
                                                                                                    subst e; exact obj st7)
      refine thnF (pg.run _ s7 _ H7 x u _ I7' r7 (step x H7 y7)) fun _ s8 ⟨σ8, H8, I8, hw8, q8⟩ => ?_
      refine thnF (pt.run _ s8 σ8 H8 _ I8 q8) fun b s9 ⟨H9, I9, q9⟩ => ?_
      have fin : ∀ {s' : Shared} {H' : Hp}, Inv (X.blk s3 H3 scope ce [it]) ([] ++ pinsAt [it] s7.heap) σ8 H' s' → Nx H' → ∃ m, m < n ∧ ∃ i H', Inv (X.blk s3 H3 scope ce [it]) [] (wipe σ (own.map (·.2))) H' s' ∧ s'.heap.IsListIter it a i ∧ H' it = none ∧ W i m H' := fun {s' H'} I' nx => by
        obtain ⟨m', hm, w'⟩ := hNx H' nx
        have pin' : ∀ o, s7.heap.get? it = some o → s'.heap.get? it = some o ∧ H' it = none := fun o e =>
          let z := I'.pin (it, o) (List.mem_append_right _ (List.mem_append_right _ (mem_pinsAt (by simp) e)))
          ⟨z.1, z.2.1⟩
        have hl : (wipe σ (own.map (·.2))).length = σ8.length := by rw [← hw8, wipe_length]
        refine ⟨m', hm, i + 1, H', (I'.unpinned (pins := [])).weak hl (fun j v e => ?_), keep st7 fun o e => (pin' o e).1, ?_, w'⟩
        · rw [← hw8] at e
          exact (wipe_some e).1
        · obtain ⟨o, e, _⟩ := obj st7
          exact (pin' o e).2
      cases b with
      | false =>
        simp only [Bool.false_eq_true, if_false] at q9 ⊢
        exact fin I9 q9
      | true =>
        simp only [if_true] at q9 ⊢
        refine thnF (pe.run _ s9 σ8 H9 _ I9 q9) fun z s10 ⟨yv, H10, I10, r10, acc, hD10, hz10, nx⟩ => ?_
        exact app_ok (X := X.blk s3 H3 scope ce [it]) I10 hD10 hz10 r10 fun s11 I11 => fin I11 nx
  exact codeAny_compStart_list loop (wpAny_pyIter_listiter st4 loop)
theorem pe_lcZ {elt tg iter : Expr} {ifs : List Expr} {scope : Scope} {own : List (Str × Nat)} {pos : Pos} {tl : TE} {g : TG} {tt : TT} {te : TE} (hp1 : L2H.Hot1 X.A p) (hpm : p ∈ X.pn) (hN : X.N.Nodup) (hi : PE X iter tl) (ok : BlkOk X.N X.env.scope scope own)
    (hg : ∀ (s : Shared) (H : Hp) (C : Addr) (cl : List (Str × Addr)) (fp : List Addr), HotZ (X.blk s H scope (compEnvC scope cl C X.env) fp) p → PG (X.blk s H scope (compEnvC scope cl C X.env) fp) tg g) (ht : ∀ (s : Shared) (H : Hp) (C : Addr) (cl : List (Str × Addr)) (fp : List Addr), PTs (X.blk s H scope (compEnvC scope cl C X.env) fp) ifs tt)
    (he : ∀ (s : Shared) (H : Hp) (C : Addr) (cl : List (Str × Addr)) (fp : List Addr), PE (X.blk s H scope (compEnvC scope cl C X.env) fp) elt te) (hs : ∀ x, foldedSetIterable iter X.env x = pure x := by intro _; rfl) :
    PE X (.ListComp elt [⟨tg, iter, ifs, 0⟩] scope pos) (tLc (iList X.K tl) g tt te (own.map (·.2))) := by
  refine ⟨fun pins s σ H Q I h => ?_⟩
  rw [eval_ListComp]
  refine lc_coreZ hp1 hpm hN I hi ok hg ht he hs h fun D C s' m H' I' q hn f => ⟨m, hn, fun h'' sb => ?_⟩
  obtain ⟨f0, f1, f2, f3, f4, f5⟩ := f
  exact ⟨.ref D, H', I'.turned (t' := s'.toks) (fun b o hb e => (sb.2 b hb).trans e) f0 f1 f3 f4 f5, rfl, q⟩
end
end Pf
/-! part Ph2 -/
set_option Elab.async false
set_option linter.all false
set_option maxRecDepth 100000
set_option maxHeartbeats 4000000
/-! Ph2: isinstance of a handled error that has attributes. -/
namespace PySem.W
open PySem PySem.Spec PySem.Calls PyProof.Rows
section
variable {prog : Program} {w : World} {A : Around} {E : Value → Shared → Prop} {s : Shared} {K : Frag} {x D : Addr} {ox od : Obj}
theorem kin_classD {Q : Option Value → Shared → Prop} (hga : findIn K (.ref D) "__getattribute__" = some (some (.builtin "BaseException.__getattribute__"))) (hgt : findIn K (.ref D) "__getattr__" = some none) (hsub : subIn K (.ref D) (.type "BaseException") = some true)
    (hdct : hasDictIn K D = true) (ha : findIn K (.ref D) "__class__" = some (some (.builtin "object.__class__")))
    (hn : specialIn K (.builtin "object.__class__") "__get__" = some (some (.builtin "getset_descriptor.__get__"))) (htk : takesIn K (.builtin "object.__class__") = some true) (hm : mroIn K D (.type "object") = some true)
    (X : K.In s.heap) (I : InstAt s.heap x ox D (some od)) (h : Q (some (.ref D)) { s with toks := s.toks + 1 }) : wpAny (model prog w) A (getAttr? (.ref x) "__class__") Q E s := by
  have hf : findObj K D (some od) "__class__" = some (.bind (.builtin "getset_descriptor.__get__") (.builtin "object.__class__")) := findObj_data (by obtain ⟨cd, hc, _⟩ := any_some hdct; rw [hc]; rfl) ha hn htk
  obtain ⟨hp, g, d, t, os⟩ := s
  have L0 := I.type (M := model prog w)
  have L1 := looks_findIn (M := model prog w) X hga
  have L2 := looks_findIn (M := model prog w) X hgt
  have L3 := looks_find (M := model prog w) X I hf
  have sub : Looks (model prog w) hp (isInstance (.ref x) (.type "BaseException")) true := L0.andThen (looks_subIn X hsub)
  have hx0 : (false && onTheHeap (Value.builtin "BaseException.__getattribute__")) = false := rfl
  have hx2 : (Value.builtin "BaseException.__getattribute__" == Value.builtin "object.__getattribute__") = false := by decide +kernel
  have hx1 : (onTheHeap (Value.ref D) && Value.builtin "BaseException.__getattribute__" == Value.builtin "object.__getattribute__") = false := by rw [hx2]; rfl
  unfold getAttr? getAttrBy? getAttrBy
  refine wpAny_bind (wpAny_mkText (wpAny_bind (wpAny_attempt (wpAny_holding (wpAny_bind (L0.at (wpAny_bind (L1.at ?_))))))))
  show wpAny _ _ (if (onTheHeap (Value.ref D) && Value.builtin "BaseException.__getattribute__" == Value.builtin "object.__getattribute__") = true then _ else _) _ _ _
  rw [hx1, if_neg Bool.false_ne_true]
  unfold getAttrByItsOwn hookBefore
  refine wpAny_bind ?_
  rw [if_pos (show onTheHeap (Value.ref D) = true from rfl)]
  refine L2.at ?_
  refine wpAny_bind (wpAny_attempt (wpAny_holding ?_))
  unfold callGetattribute
  rw [hx0, if_neg Bool.false_ne_true]
  unfold boundAndCalled
  rw [PySem.F.excAttr_ValueError.ga.bind (.ref x)]
  refine wpAny_bind (wpAny_pure ?_)
  show wpAny _ _ (call (.builtin "BaseException.__getattribute__") [.ref x, .str "__class__" t]) _ _ _
  refine wpAny_call (codeAny_call_builtin PySem.F.excAttr_ValueError.ga.plain PySem.F.entry_bexc_ga ?_)
  refine @check_slot (model prog w) _ _ ⟨hp, g, d, t + 1, os⟩ "BaseException.__getattribute__" "BaseException" "__getattribute__" (.ref x) [.str "__class__" t] [] _ (by decide +kernel) (by decide +kernel) sub (PySem.F.args_bexc_ga (.ref x) (.str "__class__" t)) ?_
  unfold Builtin.«object.__getattribute__»
  refine wpAny_bind (wpAny_of_eq (a := ((Value.ref x : Value), [Value.str "__class__" t])) (by first | rfl | (simp only [slotArgs]; rfl)) ?_)
  refine wpAny_bind (wpAny_pure (wpAny_bind (L0.at (wpAny_bind (L3.at ?_)))))
  show wpAny _ _ (holding [Value.builtin "object.__class__"] (call (.builtin "getset_descriptor.__get__") [.builtin "object.__class__", .ref x, .ref D]) >>= ret) _ _ _
  refine wpAny_bind (wpAny_holding (wpAny_call (class_get (s := ⟨hp, g, d, t + 1, os⟩) (ox := ox) (od := some od) X I hm ?_)))
  refine wpAny_pure ?_
  show wpAny _ _ (handedOut (.ref D)) _ _ _
  rw [handedOut_of (v := .ref D) rfl]
  first
    | exact wpAny_pure (wpAny_pure h)
    | exact wpAny_pure h
    | exact wpAny_pure (wpAny_bind (wpAny_pure (wpAny_pure h)))
theorem kitx_excD (hga : findIn K (.ref D) "__getattribute__" = some (some (.builtin "BaseException.__getattribute__"))) (hgt : findIn K (.ref D) "__getattr__" = some none) (hsub : subIn K (.ref D) (.type "BaseException") = some true) (hdct : hasDictIn K D = true) (ha : findIn K (.ref D) "__class__" = some (some (.builtin "object.__class__")))
    (hn : specialIn K (.builtin "object.__class__") "__get__" = some (some (.builtin "getset_descriptor.__get__"))) (htk : takesIn K (.builtin "object.__class__") = some true) (hm : mroIn K D (.type "object") = some true) :
    KitX K (.ref x) (.ref D) (fun h => ∃ od, InstAt h x ox D (some od)) where
  ty := fun _ _ _ ⟨_, I⟩ => I.type
  it := fun _ _ X _ => by
    obtain ⟨cdD, hcD, _⟩ := any_some hdct
    unfold clsIn at hcD
    split at hcD
    · rename_i c' d' cd' sl' ho
      intro A' Q' E' s' k q
      unfold isType loadHead
      exact wpAny_bind (wpAny_loadPart (k _ _ (X _ _ ho)) (wpAny_pure q))
    · cases hcD
  ne := fun h tp dd its n sl X htp => by
    obtain ⟨cdD, hcD, _⟩ := any_some hdct
    refine Bool.eq_false_iff.mpr fun q => ?_
    have e : D = tp := Value.ref.inj (beq_iff_eq.mp q)
    subst e
    unfold clsIn at hcD
    split at hcD
    · rename_i c' d' cd' sl' ho
      have z := (X _ _ ho).symm.trans htp
      cases z
    · cases hcD
  ca := fun X ⟨_, I⟩ k => kin_classD hga hgt hsub hdct ha hn htk hm X I k
end
end PySem.W
/-! part Ph3 -/
set_option Elab.async false
set_option linter.all false
set_option maxRecDepth 100000
set_option maxHeartbeats 2000000
/-! Ph3: defs that run while an exception is handled; the exception as data. -/
namespace Pf
open PySem PySem.Spec PyProof.Rows L2 HotX
def Tab.hot (T : Tab) (a dx : Addr) (c : Nat) : Tab := { T with hx := some (a, dx, c) }
/-- the context bears the handled exception pp, T knows it -/
structure HotT (X : Cx) (T : Tab) (pp : Addr × Obj) (dx : Addr) (c : Nat) : Prop where
  hot : L2H.Hot1 X.A pp
  mem : pp ∈ X.pn
  hx : T.hx = some (pp.1, dx, c)
  cls : pp.2.cls = .ref (T.C c)
  dict : pp.2.dict = some dx
theorem HotT.fld {X : Cx} {T : Tab} {pp : Addr × Obj} {dx : Addr} {c : Nat} (h : HotT X T pp dx c) : ∃ vs, pp.2.data = .fields vs := by
  obtain ⟨_, vs, e, _⟩ := h.hot; exact ⟨vs, e⟩
abbrev SpH := Addr → Value → Option Addr → Sp
def FnHR (P : Program) (w : World) (K : PySem.W.Frag) (mg : Str → Option Value) (base : Heap) (CX : CXT) (k : Nat) (f : Addr) (sp : SpH) : Prop :=
  ∀ (A : Around) (outer : List Env) (s : Shared) (H : Hp) (us : List Value) (vs : List V) (Q : VK) (E : XK) (p : Addr × Obj), L2H.RoomH k A → L2H.Hot1 A p → L2H.PinOk outer H s p → Env0 P w K mg base A outer s H → Vals vs us → sp p.1 p.2.cls p.2.dict vs H Q E →
    codeAny (model P w) A (.call (.ref f) ⟨us, []⟩) (L2.CR CX outer P w H s Q E) s
theorem FnHR.mono {P : Program} {w : World} {K : PySem.W.Frag} {mg : Str → Option Value} {base : Heap} {CX : CXT} {j k : Nat} {f : Addr} {sp : SpH} (F : FnHR P w K mg base CX j f sp) (h : j ≤ k) : FnHR P w K mg base CX k f sp :=
  fun A outer s H us vs Q E p hr => F A outer s H us vs Q E p (hr.mono h)
/-- what such a def promises: m, the plain function -/
def spH (K : PySem.W.Frag) (T : Tab) (n : Nat) (m : FM) : SpH := fun a cls d vs H Q E => ∃ dx c, d = some dx ∧ cls = .ref (T.C c) ∧ spF K (T.hot a dx c) n m vs H Q E
instance xok_H {P : Program} {w : World} {K : PySem.W.Frag} {mg : Str → Option Value} {base : Heap} {qual : Str} {scope : Scope} {f : Addr} {T : Tab} {N : List Str} {cdv : Value} {A : Around} {outer : List Env} {s : Shared} {H G : Hp} {E : XK} {pp : Addr × Obj} {mk : MkT T G} :
    XOk (L2H.cxH (L2N.CX P w) P w K mg base N qual scope f cdv A outer s H E pp) (b0 K T G H E mk) :=
  ⟨⟨_, L2N.takes_of rfl rfl rfl rfl, fun G' H' σ ρ x cls d S h er => h G' H' cls d ⟨S.g0, S.ex, S.new, fun a o h n => S.fr a o h n (fun z => z), S.al⟩ er⟩⟩
section
variable {P : Program} {w : World} {K : PySem.W.Frag} {mg : Str → Option Value} {base : Heap} {x qual : Str} {params : Arguments} {body : List Stmt} {scope : Scope} {dvs : List V} {kws : List (Str × V)} {f : Addr} {fd : FuncData} {T : Tab}
/-- THE RULE: a def that runs while an exception is handled -/
theorem fn_H {N ps : List Str} {k n : Nat} {sf : SF} (F : FunD K x qual params body scope dvs kws f fd) (S : FnScope N ps scope) (hb : Binds K fd ps []) (hn : n = ps.length)
    (hbody : ∀ (cdv : Value) (A : Around) (outer : List Env) (s : Shared) (H G : Hp) (E : XK) (pp : Addr × Obj) (dx : Addr) (c : Nat) (mk : MkT (T.hot pp.1 dx c) G), HotT (L2H.cxH (L2N.CX P w) P w K mg base N qual scope f cdv A outer s H E pp) (T.hot pp.1 dx c) pp dx c → L2H.RoomH k (A.deeper (envOfC qual scope s.heap.objs.size f cdv)) →
      PSs (L2H.cxH (L2N.CX P w) P w K mg base N qual scope f cdv A outer s H E pp) body (tS K (b0 K (T.hot pp.1 dx c) G H E mk) sf)) : FnHR P w K mg base (L2N.CX P w) (k + 1) f (spH K T n (mF N.length sf)) := by
  have hpl : ps.length ≤ N.length := by have := congrArg List.length S.pre; rw [List.length_take] at this; omega
  obtain ⟨oc, od, dV, kV, doc, pm, an, cdv, ct, osl, rfl, lk, hcd, _, _⟩ := F.ex
  intro A outer s H us vs Q E p hr hot hpin e0 r hsp
  obtain ⟨dx, c, hd, hcl, hsp⟩ := hsp
  have hv := hsp.1
  have hl : vs.length = ps.length := by rw [hv, hn]
  subst hv
  have KX : K.In s.heap := e0.mod.kin.keeps fun b o e => (e0.bs b o e).1
  have lim : s.heap.NoLimit := e0.mod.nolimit.keeps fun b o e => (e0.bs b o e).1
  have hkind : ∀ y ∈ ps.zip us, scope.names.lookup y.1 = some .local ∨ (scope.names.lookup y.1 = some .cell ∧ ((cellsFrom (s.heap.objs.size + 1) scope.names []).lookup y.1).isSome = true) := fun ⟨n, v⟩ hy => by
    rcases S.par n (List.of_mem_zip hy).1 with q | q
    · exact .inl q
    · exact .inr ⟨q, PySem.W.cellsFrom_some _ _ _ (.inl q)⟩
  have hb' := hb s us KX (by rw [List.append_nil, ← r.length, hl])
  rw [List.append_nil] at hb'
  refine codeAny_call_function hr.depth (KX _ _ lk) rfl S.co S.gen rfl (PySem.W.codeRec_of KX hcd) (hb' _ _ _ _ ?_)
  refine wpAny_newFunctionEnv_cells S.kind hkind fun env he s1 x => ?_
  subst he
  refine ⟨lim.keeps x.toInCall.keep, codeAny_func ?_⟩
  obtain ⟨G, mk, hq⟩ := start_run (N := N) (by rw [hl]; exact hpl) hsp
  have ht := hbody cdv A outer s H G E p dx c mk ⟨hot, by show p ∈ [p]; simp, rfl, hcl, hd⟩ (hr.deeper _)
  have I : Inv (L2H.cxH (L2N.CX P w) P w K mg base N qual scope f cdv A outer s H E p) [] (L2.start N vs) H s1 := L2H.inv_startH S hpin e0 hl r x
  refine wpAny_mono (ht.run [] s1 (L2.start N vs) H _ I hq) (fun fl s' hs => ?_) fun e s' hs => hs
  have fin : ∀ {σ' : L2.St} {H' : Hp} {v : V} {u : Value}, Inv (L2H.cxH (L2N.CX P w) P w K mg base N qual scope f cdv A outer s H E p) [] σ' H' s' → RelV v u → Q v H' → CE outer P w H s Q u s' :=
    fun {σ' H' v u} J rv q => ⟨v, H', J.os, J.bare, J.base, J.hok, rv, q⟩
  cases fl with
  | ret u =>
    obtain ⟨v, σ', H', J, rv, q⟩ := hs
    exact fin J rv q
  | next =>
    obtain ⟨σ', H', J, q⟩ := hs
    exact fin (v := V.non) (u := Value.none) J rfl q
  | brk =>
    obtain ⟨_, _, _, q⟩ := hs
    exact False.elim q
  | cont =>
    obtain ⟨_, _, _, q⟩ := hs
    exact False.elim q
end
section
variable {X : Cx} {B : Bs} {K : PySem.W.Frag} {T : Tab} {G G' H H' : Hp} {σ σ' : L2.St} {ρ ρ' : Ve} {Q : VK} {v : V} {e tg iter : Expr} {es : List Expr} {f : Str}
theorem run_HR {W : WX} {k : Nat} {fa : Addr} {sp : SpH} {pp : Addr × Obj} (tkw : L2N.Takes X W) {pins : List (Addr × Obj)} {σ : L2.St} {H : Hp} {s : Shared} {Q : VK} {us : List Value} {vs : List V} (F : FnHR X.prog X.w X.K X.mg X.base (L2N.CX X.prog X.w) k fa sp) (hr : L2H.RoomH k X.A) (hot : L2H.Hot1 X.A pp) (hp : pp ∈ X.pn)
    (I : Inv X pins σ H s) (r : Vals vs us) (h : sp pp.1 pp.2.cls pp.2.dict vs H Q (WE W σ)) : wpAny (model X.prog X.w) X.A (call (.ref fa) us) (EP X pins σ Q) X.xe s := by
  have P1 := I.pin pp (List.mem_append_left _ hp)
  have hpin : L2H.PinOk X.stack H s pp := ⟨P1.1, P1.2.1, fun hm => (List.mem_cons.mp (I.stkSub pp.1 hm)).elim P1.2.2.1 P1.2.2.2.1, P1.2.2.2.2⟩
  refine wpAny_call (codeAny_mono (F X.A X.stack s H us vs Q (WE W σ) pp hr hot hpin I.env0 r h) fun r s' hq => ?_)
  cases r with
  | error e => exact L2N.passAt tkw σ pins H s e s' I hq
  | ok fl =>
    cases fl with
    | ret u => exact I.after hq
    | next => exact False.elim hq
    | brk => exact False.elim hq
    | cont => exact False.elim hq
theorem pe_HR {W : WX} {k : Nat} {fa : Addr} {sp : SpH} {sp0 : Sp} {pp : Addr × Obj} {x : Str} {p pos : Pos} {t : TA} (tkw : L2N.Takes X W) (F : FnHR X.prog X.w X.K X.mg X.base (L2N.CX X.prog X.w) k fa sp) (hsub : ∀ vs H Q E, sp0 vs H Q E → sp pp.1 pp.2.cls pp.2.dict vs H Q E) (hr : L2H.RoomH k X.A) (hot : L2H.Hot1 X.A pp) (hp : pp ∈ X.pn) (hg : Gl X x) (hm : X.mg x = some (.ref fa)) (hk : PySem.W.keepIn X.K (.ref fa) = true)
    (ha : PA X (e :: es) t) (hdb : (x == ("__debug__" : Str)) = false := by decide) (he : starEach (e :: es) X.env = (false, eval e X.env) :: starEach es X.env := by rfl) (hpl : (backTo pos (starEach es X.env)).any (·.1) = false := by rfl) :
    PE X (.Call (.Name x p) (e :: es) [] pos) (fun σ H Q => t σ H fun vs H1 => sp0 vs H1 Q (WE W σ)) := by
  refine ⟨fun pins s σ H Q I h => ?_⟩
  refine wpAny_Call_Name_kw (ld_glob I hg hm ?_ hdb)
  refine PySem.W.callWith_K (h₀ := X.base) I.ok.mod.kin hk (thn (ha.run pos pins s σ H _ I h) fun us s1 ⟨vs, H1, I1, r, q⟩ => ⟨I1.kIn, ?_⟩) he hpl
  exact run_HR tkw F hr hot hp I1 r (hsub _ _ _ _ q)
/-- a hot def called by a hot def -/
theorem pe_fCallH [xk : XOk X B] {T0 : Tab} {k : Nat} {fa : Addr} {m : FM} {n : Nat} {os : List Opd} {x : Str} {p pos : Pos} {pp : Addr × Obj} {dx : Addr} {c : Nat} (hh : HotT X B.T pp dx c) (hT : B.T = T0.hot pp.1 dx c) (F : FnHR X.prog X.w X.K X.mg X.base (L2N.CX X.prog X.w) k fa (spH X.K T0 n m)) (hr : L2H.RoomH k X.A) (hg : Gl X x) (hm : X.mg x = some (.ref fa)) (hk : PySem.W.keepIn X.K (.ref fa) = true)
    (ha : PA X (e :: es) (tOs X.K B os)) (hn : os.length = n := by rfl) (hdb : (x == ("__debug__" : Str)) = false := by decide) (he : starEach (e :: es) X.env = (false, eval e X.env) :: starEach es X.env := by rfl) (hpl : (backTo pos (starEach es X.env)).any (·.1) = false := by rfl) :
    PE X (.Call (.Name x p) (e :: es) [] pos) (tF X.K B (fCall m os)) :=
  xk.ok.elim fun W h => PE.imp (pe_HR (sp0 := spF X.K B.T n m) h.1 F (fun vs H Q E z => ⟨dx, c, hh.dict, by rw [hh.cls, hT]; rfl, by rw [← hT]; exact z⟩) hr hh.hot hh.mem hg hm hk ha hdb he hpl) fun σ H Q ⟨G, ρ, S, q⟩ => call_read (fun G H ρ => h.2 G H σ ρ) S q hn
/-! ### the exception's attributes, its classes -/
structure XFldOk (K : PySem.W.Frag) (T : Tab) (nm : Str) (l : List (Nat × Nat)) : Prop where
  ok : ∀ c i, l.lookup c = some i → XfC K (T.C c) ∧ PySem.W.findIn K (.ref (T.C c)) nm = some none ∧ ixF nm (T.L c) = some i
def fXf (l : List (Nat × Nat)) (o : Opd) : EF := fun ρ => match evO o ρ with
  | .ok h ρ1 => match h.get ρ1 with
    | some (.exc c fs) => match l.lookup c with
      | some i => match fs[i]? with
        | some d => .ok false d ρ1
        | none => .no
      | none => .no
    | _ => .no
  | .ex x ρ1 => .ex x ρ1
  | .no => .no
theorem Cont.exc {c : Nat} {ds : List D} (h : Cont K T G H v (.exc c ds)) : Rep K T G (.exc c ds) v := by
  rcases h with h | ⟨p, e, h⟩
  · exact h
  · exact h.elim
theorem xf_run {nm : Str} {e : Expr} {te : TE} {pos : Pos} {pp : Addr × Obj} {dx : Addr} {C : Addr} (hm : pp ∈ X.pn) (hf : ∃ vs, pp.2.data = .fields vs) (hc : pp.2.cls = .ref C) (hd : pp.2.dict = some dx) (T : XfC X.K C) (hno : PySem.W.findIn X.K (.ref C) nm = some none) (he : PE X e te) (hb : attributeBase e nm X.env (eval e X.env) = eval e X.env := by rfl) :
    PE X (.Attribute e nm pos) (fun σ H Q => te σ H fun x H1 => x = .ref pp.1 ∧ ∃ (fs : List (Str × V)) (v : V), H1 dx = some (.xd fs) ∧ fs.lookup nm = some v ∧ Q v H1) := by
  refine ⟨fun pins s σ H Q I h => ?_⟩
  refine attr_of hb (thn (he.run pins s σ H _ I h) fun u s1 ⟨x, H1, I1, rx, ex, fs, v, ea, l, q⟩ => ?_)
  subst ex
  obtain rfl : u = Value.ref pp.1 := rx
  obtain ⟨ha, _⟩ := I1.pin pp (List.mem_append_left _ hm)
  obtain ⟨vs, hdd⟩ := hf
  have hx : ObjOk X.prog X.w H1 s1.heap dx (.xd fs) := I1.hok dx _ ea
  obtain ⟨mA, hns, hr⟩ := hx
  obtain ⟨od, ho, hl⟩ := lookIn_ns hns
  obtain ⟨u, hu, ru⟩ := RelO.some_of (v := v) (o := mA nm) (by rw [← l]; exact hr nm)
  have J : PySem.W.InstAt s1.heap pp.1 pp.2 C (some od) := ⟨ha, hc, by unfold PySem.W.notCls; rw [hdd] <;> rfl, by rw [hd]; exact ho⟩
  exact HandSPX.exc_get I1.kIn J T.ga T.gg T.exC (PySem.W.findObj_own T.hdC hno rfl (by rw [hl, hu])) (handed_of ru) ⟨v, H1, I1.tok _, ru, q⟩
theorem pe_xfZ {nm : Str} {l : List (Nat × Nat)} {o : Opd} {e : Expr} {pos : Pos} {pp : Addr × Obj} {dx : Addr} {c : Nat} (hh : HotT X B.T pp dx c) (F : XFldOk X.K B.T nm l) (he : PE X e (tO X.K B o)) (hb : attributeBase e nm X.env (eval e X.env) = eval e X.env := by rfl) : PE X (.Attribute e nm pos) (tF X.K B (fXf l o)) := by
  cases hl : l.lookup c with
  | none =>
    refine ⟨fun pins s σ H Q I ⟨G, ρ, S, q⟩ => ?_⟩
    have nv : tO X.K B o σ H fun _ _ => False := by
      refine tO_run S ?_
      dsimp only [fXf] at q
      cases h1 : evO o ρ with
      | ok h ρ1 =>
        rw [h1] at q
        intro G1 H1 v e1 S1 k1
        dsimp only at q
        cases h2 : h.get ρ1 with
        | none => rw [h2] at q; exact q.elim
        | some d =>
          rw [h2] at q
          cases d with
          | exc c' fs =>
            obtain ⟨p, dx', vs, ev, hx, hG, hlen, r⟩ := (Hd.get_ok S1 k1 h2).exc
            rw [hh.hx] at hx
            cases hx
            dsimp only at q
            rw [hl] at q; exact q.elim
          | _ => exact q.elim
      | ex x ρ1 => rw [h1] at q; exact q
      | no => rw [h1] at q; exact q
    refine attr_of hb (thn (he.run pins s σ H _ I nv) fun u s1 ⟨_, _, _, _, z⟩ => z.elim)
  | some i =>
    obtain ⟨T1, hno, hix⟩ := F.ok c i hl
    refine PE.imp (xf_run hh.mem hh.fld hh.cls hh.dict T1 hno he hb) fun σ H Q ⟨G, ρ, S, q⟩ => ?_
    refine tO_run S ?_
    dsimp only [fXf] at q
    cases h1 : evO o ρ with
    | ok h ρ1 =>
      rw [h1] at q
      intro G1 H1 v e1 S1 k1
      dsimp only at q
      cases h2 : h.get ρ1 with
      | none => rw [h2] at q; exact q.elim
      | some d =>
        rw [h2] at q
        cases d with
        | exc c' fs =>
          obtain ⟨p, dx', vs, ev, hx, hG, hlen, r⟩ := (Hd.get_ok S1 k1 h2).exc
          rw [hh.hx] at hx
          cases hx
          dsimp only at q
          rw [hl] at q
          dsimp only at q
          cases h3 : fs[i]? with
          | none => rw [h3] at q; exact q.elim
          | some d =>
            rw [h3] at q
            obtain ⟨u, hu, ru⟩ := r.get h3
            exact ⟨ev, _, u, S1.ex.at hG rfl, ixF_lookup hix hu, q G1 H1 u e1 S1 ru⟩
        | _ => exact q.elim
    | ex x ρ1 => rw [h1] at q; exact q
    | no => rw [h1] at q; exact q
/-- isinstance of the handled exception: l tells by classes -/
structure XIsOk (K : PySem.W.Frag) (T : Tab) (cn : Cn) (l : List (Nat × Bool)) : Prop where
  ok : ∀ c b, l.lookup c = some b → ExcC K (T.C c) ∧ PySem.W.kitOne K (.ref (T.C c)) (cnV T cn) = some b
def fIsX (l : List (Nat × Bool)) (o : Opd) : EF := fun ρ => match evO o ρ with
  | .ok h ρ1 => match h.get ρ1 with
    | some (.exc c _) => match l.lookup c with
      | some b => .ok false (.bl b) ρ1
      | none => .no
    | _ => .no
  | .ex x ρ1 => .ex x ρ1
  | .no => .no
def rIsX (K : PySem.W.Frag) (D a dx : Addr) : List V → Hp → VK → Prop := fun xs H Q => ∃ (c : V) (cv : Value) (b : Bool), xs = [.ref a, c] ∧ (∀ u, RelV c u → u = cv) ∧ PySem.W.kitOne K (.ref D) cv = some b ∧ (∃ fs, H dx = some (.xd fs)) ∧ Q (.bl b) H
theorem call_isX {pp : Addr × Obj} {dx D : Addr} (hm : pp ∈ X.pn) (hf : ∃ vs, pp.2.data = .fields vs) (hc : pp.2.cls = .ref D) (hd : pp.2.dict = some dx) (C : ExcC X.K D) : CallR X (.builtin "isinstance") (rIsX X.K D pp.1 dx) := by
  intro pins s σ H xs us Q I r h
  obtain ⟨c, cv, b, rfl, hcv, e, ⟨fs, ea⟩, q⟩ := h
  cases r with
  | cons rx rr =>
    cases rr with
    | cons rt rr =>
      cases rr
      cases rx
      have ec := hcv _ rt
      subst ec
      obtain ⟨hget, _⟩ := I.pin pp (List.mem_append_left _ hm)
      obtain ⟨vs, hv⟩ := hf
      have hx : ObjOk X.prog X.w H s.heap dx (.xd fs) := I.hok dx _ ea
      obtain ⟨mA, hns, hr⟩ := hx
      obtain ⟨od, ho, hl⟩ := lookIn_ns hns
      have J : PySem.W.InstAt s.heap pp.1 pp.2 D (some od) := ⟨hget, hc, by unfold PySem.W.notCls; rw [hv] <;> rfl, by rw [hd]; exact ho⟩
      exact PySem.W.kia_one (PySem.W.kitx_excD C.hg C.hk C.hs C.hd C.ha C.hn C.ht C.hm) I.kIn ⟨od, J⟩ e (fun z => nomatch z) fun tk => ⟨.bl b, H, I.kept (t' := tk) fun _ _ z => z, rfl, q⟩
theorem pe_isX {cn : Cn} {l : List (Nat × Bool)} {a ce : Expr} {o : Opd} {p pos} {pp : Addr × Obj} {dx : Addr} {c : Nat} (hh : HotT X B.T pp dx c) (F : XIsOk X.K B.T cn l) (hg : Gl X "isinstance") (hm : X.mg "isinstance" = none) (ha : PE X a (tO X.K B o)) (hc : PE X ce (tC (cnW B.T cn)))
    (h1 : starEach [a, ce] X.env = (false, eval a X.env) :: starEach [ce] X.env := by rfl) (h2 : starEach [ce] X.env = (false, eval ce X.env) :: starEach [] X.env := by rfl) (hpl : (backTo pos (starEach [ce] X.env)).any (·.1) = false := by rfl) :
    PE X (.Call (.Name "isinstance" p) [a, ce] [] pos) (tF X.K B (fIsX l o)) := by
  cases hl : l.lookup c with
  | none =>
    refine PE.imp (pe_callB (id := "isinstance") (r := fun _ _ _ => False) (fun _ _ _ _ _ _ _ _ _ z => z.elim) hg hm (by decide +kernel) (pa_cons ha (pa_cons hc pa_nil h2) h1) (by decide) (by decide) h1 hpl) fun σ H Q ⟨G, ρ, S, q⟩ => ?_
    show tO X.K B o σ H fun x H1 => tC (cnW B.T cn) σ H1 fun y H2 => False
    refine tO_run S ?_
    dsimp only [fIsX] at q
    cases h1 : evO o ρ with
    | ok h ρ1 =>
      rw [h1] at q
      intro G1 H1 v e1 S1 k1
      dsimp only at q
      cases h2 : h.get ρ1 with
      | none => rw [h2] at q; exact q.elim
      | some d =>
        rw [h2] at q
        cases d with
        | exc c' fs =>
          obtain ⟨p, dx', vs, ev, hx, hG, hlen, r⟩ := (Hd.get_ok S1 k1 h2).exc
          rw [hh.hx] at hx
          cases hx
          dsimp only at q
          rw [hl] at q
          exact q.elim
        | _ => exact q.elim
    | ex x ρ1 => rw [h1] at q; exact q
    | no => rw [h1] at q; exact q
  | some b0 =>
  refine PE.imp (pe_callB (call_isX hh.mem hh.fld hh.cls hh.dict (F.ok c b0 hl).1) hg hm (by decide +kernel) (pa_cons ha (pa_cons hc pa_nil h2) h1) (by decide) (by decide) h1 hpl) fun σ H Q ⟨G, ρ, S, q⟩ => ?_
  · show tO X.K B o σ H fun x H1 => tC (cnW B.T cn) σ H1 fun y H2 => rIsX X.K (B.T.C c) pp.1 dx [x, y] H2 Q
    refine tO_run S ?_
    dsimp only [fIsX] at q
    cases h1 : evO o ρ with
    | ok h ρ1 =>
      rw [h1] at q
      intro G1 H1 v e1 S1 k1
      dsimp only at q
      cases h2 : h.get ρ1 with
      | none => rw [h2] at q; exact q.elim
      | some d =>
        rw [h2] at q
        cases d with
        | exc c' fs =>
          obtain ⟨p, dx', vs, ev, hx, hG, hlen, r⟩ := (Hd.get_ok S1 k1 h2).exc
          rw [hh.hx] at hx
          cases hx
          dsimp only at q
          rw [hl] at q
          have hcv : ∀ u, RelV (cnW B.T cn) u → u = cnV B.T cn := fun u r => by
            cases cn with
            | b n => exact r
            | o k => exact r
          exact ⟨_, _, b0, by rw [ev], hcv, (F.ok c b0 hl).2, ⟨_, S1.ex.at hG rfl⟩, q G1 H1 _ e1 S1 rfl⟩
        | _ => exact q.elim
    | ex x ρ1 => rw [h1] at q; exact q
    | no => rw [h1] at q; exact q
end
end Pf
/-! part Ph4 -/
set_option Elab.async false
set_option linter.all false
set_option maxRecDepth 100000
set_option maxHeartbeats 2000000
/-! Ph4: comprehensions over a list, tuples as targets, while an exception is handled. -/
namespace Pf
open PySem PySem.Spec PyProof.Rows L2 HotX
section
variable {X : Cx} {B : Bs} {K : PySem.W.Frag} {T : Tab} {G G' H H' : Hp} {σ σ' : L2.St} {ρ ρ' : Ve} {Q : VK} {v : V} {e tg iter : Expr} {es : List Expr} {f : Str}
theorem pg_tZ {xs : List Expr} {ts : List Tg} {n kk : Nat} {pos} {pp : Addr × Obj} (Z : HotZ X pp) (h : PGs X xs (tGs X.K B ts)) (hl : ts.length = n) (hn : (assignEach xs X.env).length = n := by rfl) (hst : (assignEach xs X.env).findIdx? (·.1) = none := by rfl) : PG X (.Tuple xs kk pos) (tG X.K B (.t ts)) :=
  PG.imp (pg_tupZ Z h hn hst) (tupG_read hl)
def iSeqL (f : EF) : ITf := fun ρ => match f ρ with
  | .ok _ (.lst ds) ρ1 => .ok ds ρ1
  | .ok _ (.rol ds) ρ1 => .ok ds ρ1
  | .ok _ _ _ => .no
  | .ex x ρ1 => .ex x ρ1
  | .no => .no
theorem iSeqL_read {f : EF} {R : It → Hp → Prop} (h : tI K B (iSeqL f) σ H R) : iList K (tF K B f) σ H R := by
  obtain ⟨G, ρ, S, q⟩ := h
  dsimp only [iSeqL] at q
  refine ⟨G, ρ, S, PostZ.toE ?_⟩
  cases h1 : f ρ with
  | ex x ρ1 => rw [h1] at q; exact q
  | no => rw [h1] at q; exact q.elim
  | ok fl d ρ1 =>
    rw [h1] at q
    cases d with
    | lst ds =>
      intro G1 H1 v e1 S1 ⟨p, vs, ev, s, r⟩
      exact ⟨p, ev, ⟨vs, SqL.of (S1.ex.at s rfl)⟩, q G1 H1 _ e1 S1 (walkD_list (SqL.of s) r)⟩
    | rol ds =>
      intro G1 H1 v e1 S1 ⟨p, vs, ev, s, r⟩
      exact ⟨p, ev, ⟨vs, S1.ex.l s⟩, q G1 H1 _ e1 S1 (walkD_list s r)⟩
    | _ => exact q.elim
theorem pe_coZ {elt : Expr} {ifs : List Expr} {scope : Scope} {own : List (Str × Nat)} {pos : Pos} {f : EF} {t : Tg} {c : TFn} {el : EF} {pp : Addr × Obj} {dx : Addr} {cc : Nat} (hh : HotT X B.T pp dx cc) (hN : X.N.Nodup) (hi : PE X iter (tF X.K B f)) (ok : BlkOk X.N X.env.scope scope own) (ht : t.inn (own.map (·.2)))
    (hg : ∀ (s : Shared) (H : Hp) (C : Addr) (cl : List (Str × Addr)) (fp : List Addr), HotZ (X.blk s H scope (compEnvC scope cl C X.env) fp) pp → ∀ h0 g0 mm, PG (X.blk s H scope (compEnvC scope cl C X.env) fp) tg (tG X.K (bb B h0 g0 mm) t))
    (hq : ∀ (s : Shared) (H : Hp) (C : Addr) (cl : List (Str × Addr)) (fp : List Addr) h0 g0 mm, PTs (X.blk s H scope (compEnvC scope cl C X.env) fp) ifs (tT X.K (bb B h0 g0 mm) c))
    (he : ∀ (s : Shared) (H : Hp) (C : Addr) (cl : List (Str × Addr)) (fp : List Addr) h0 g0 mm, PE (X.blk s H scope (compEnvC scope cl C X.env) fp) elt (tF X.K (bb B h0 g0 mm) el)) (hs : ∀ x, foldedSetIterable iter X.env x = pure x := by intro _; rfl) :
    PE X (.ListComp elt [⟨tg, iter, ifs, 0⟩] scope pos) (tF X.K B (fLc (own.map (·.2)) (iSeqL f) t c el)) :=
  PE.imp (pe_lcZ hh.hot hh.mem hN hi ok (fun s H C cl fp z => pg_a (X := X.blk s H scope (compEnvC scope cl C X.env) fp) (hg s H C cl fp z)) (fun s H C cl fp => pts_a (X := X.blk s H scope (compEnvC scope cl C X.env) fp) (hq s H C cl fp)) (fun s H C cl fp => pe_a (X := X.blk s H scope (compEnvC scope cl C X.env) fp) (he s H C cl fp)) hs)
    fun σ H Q ⟨G, ρ, S, q⟩ => iSeqL_read (lc_read ht S q)
end
end Pf
/-! part Ph5 -/
set_option Elab.async false
set_option linter.all false
set_option maxRecDepth 100000
set_option maxHeartbeats 2000000
/-! Ph5: try: body, except x as n: return f(n), further clauses that are never asked. -/
namespace Pf
open PySem PySem.Spec PyProof.Rows L2 HotX
/-- the first clause takes it -/
def wFst (K : PySem.W.Frag) (c : Value) (i : Nat) (ts : Addr → Value → Option Addr → TS) (D : Ends) : WX := fun cls d σ H =>
  PySem.W.exmOne K cls c = some true ∧ ∀ a, H a = none → ts a cls d { nx := fun σ' H' => D.nx (σ'.set i none) H', rt := D.rt, bk := fun σ' H' => D.bk (σ'.set i none) H', ct := fun σ' H' => D.ct (σ'.set i none) H' } (σ.set i (some (.ref a))) H
section
variable {X : Cx} {x n : Str} {c : Value} {i : Nat} {body suite : List Stmt} {b₀ : Stmt} {np pos pos' : Pos} {tb : WX → TS} {ts : Addr → Value → Option Addr → TS} {more : List ExceptHandler}
theorem ps_try_first (hs : X.stack = X.env :: X.outer) (hf : X.env.frame = some X.env.locals) (hN : X.N.Nodup) (hi : X.N[i]? = some n) (hln : X.env.kindOf n = some .local) (hc : Names X x c)
    (hb : ∀ (W : WX) (pn : List (Addr × Obj)) (xe : Value → Shared → Prop), L2N.Takes (X.tr pn xe) W → PassesOwn (model X.prog X.w) X.A X.env xe → PSs (X.tr pn xe) body (tb W))
    (hsu : ∀ (a : Addr) (oe : Obj) (cls : Value) (d : Option Addr) (pn : List (Addr × Obj)), L2N.Zn cls d oe → (∃ vs, oe.data = .fields vs) → PSs (X.suite a ((a, oe) :: pn)) (b₀ :: suite) (ts a cls d)) :
    PS X (.Try body (.ExceptHandler (some (.Name x np)) (some n) (b₀ :: suite) pos' :: more) [] [] pos) (fun D σ H => tb (wFst X.K c i ts D) D σ H) := by
  refine ⟨fun pins s σ H D I h => ?_⟩
  have ok := I.ok
  have hfr : X.A.frames = some (X.env :: X.outer) := by rw [ok.frames, hs]
  have hloc : Loc X.env.scope n := .inl hln
  refine wpAny_Try_except ?_
  refine wpAny_mono ((hb (wFst X.K c i ts D) (X.pn ++ pins) (fun e s₁ => wpAny (model X.prog X.w) X.A (noteFrame e X.env) (fun _ s₂ => wpAny (model X.prog X.w) X.A (setFlight e none) (fun _ s₃ =>
    wpAny (model X.prog X.w) X.A (handleBy e X.env (.ExceptHandler (some (.Name x np)) (some n) (b₀ :: suite) pos' :: more)) (SP X pins D) X.xe s₃) X.xe s₂) X.xe s₁) (fun u s' xx => ?_) PassesOwn.looking).run [] s σ H D (I.toTry _) h) (fun f s1 hsp => ?_) (fun e s1 he => he)
  · obtain ⟨a, B, sI, pins', σ', H', cls, d, rfl, J', nb, up, sky, na, os, ag, hb1, hyes⟩ := xx
    have J : Inv X pins σ' H' sI := J'.ofTry ok
    have sky' : Sky B (X.env :: X.outer) a (L2N.Zn cls d) X.env.locals s'.heap := by rw [← hs]; exact sky
    show wpAny (model X.prog X.w) X.A (noteFrame (.ref a) X.env) _ _ _
    refine L2N.Sky.land L2N.Zn.steady hfr hf sky' fun h3 fl3 up3 => ?_
    have J3 : Inv X pins σ' H' { s' with heap := h3 } := J.landed nb fl3.1 (up.trans up3) os ag
    obtain ⟨oe3, vs3, he3, hz3, hd3⟩ := fl3.there
    have notFr : ∀ {h : Heap} {o : Obj} {vs : Array Value}, h.FunFrames B (X.env :: X.outer) → h.get? a = some o → o.data = .fields vs → a ∉ frs (X.env :: X.outer) := fun {h o vs} ff e dd hm => by
      obtain ⟨_, o', e', hnf⟩ := ff.mem hm
      rw [e] at e'; cases e'
      exact hnf _ dd
    have nfr := notFr fl3.2.2.1 he3 hd3
    have nL : a ≠ X.env.locals := fun z => nfr (List.mem_filterMap.mpr ⟨X.env, List.mem_cons_self, by rw [hf, z]⟩)
    have nF : a ∉ X.fs := fun hm => by
      obtain ⟨e, he, q⟩ := List.mem_filterMap.mp hm
      exact nfr (List.mem_filterMap.mpr ⟨e, List.mem_cons_of_mem _ he, q⟩)
    have S3 := J3.suite he3 hd3 na nL nF
    refine wpAny_handleBy_cons (codeAny_handlers_test ?_) (by intro q; cases q)
    have LT : PySem.W.Looks (model X.prog X.w) h3 (typeOf (.ref a)) cls := fun A Q E s k q => wpAny_typeOf_ref (k _ _ he3) (by rw [hz3.1]; exact q)
    have LM := PySem.W.exm_one (M := model X.prog X.w) (J3.kIn) LT hb1
    have test : ∀ {Q : Value → Shared → Prop} {E : Value → Shared → Prop}, Q c { s' with heap := h3 } → wpAny (model X.prog X.w) (X.A.mark (some (.ref a))) (eval (.Name x np) X.env) Q E { s' with heap := h3 } := fun {Q E} q => by
      obtain ⟨hg, hdbg, hm | ⟨hm, hv, hnn⟩⟩ := hc
      · exact ld_glob (X := X.suite a ((a, oe3) :: (X.pn ++ pins))) S3 hg hm q hdbg
      · exact ld_blt (X := X.suite a ((a, oe3) :: (X.pn ++ pins))) S3 hg hm hv q hnn hdbg
    refine test (LM.here ?_)
    refine codeAny_handlers_suite_as ?_
    refine HandSPX.lands_againZ fl3 fun h4 fl4 up4 => ?_
    have J4 : Inv X pins σ' H' { s' with heap := h4 } := J.landed nb fl4.1 ((up.trans up3).trans up4) os ag
    obtain ⟨oe4, vs4, he4, hz4, hd4⟩ := fl4.there
    have S4 := J4.suite he4 hd4 na nL nF
    refine store_ok (X := X.suite a ((a, oe4) :: (X.pn ++ pins))) (v := .ref a) S4 hN hi hloc rfl (fun s5 S5 => ?_) (.inr hln)
    refine wpAny_mono ((hsu a oe4 cls d (X.pn ++ pins) hz4 ⟨_, hd4⟩).run [] s5 _ H' _ S5 (hyes a na)) (fun f s6 hsp => ?_) (fun _ _ z => False.elim z)
    have end_ : ∀ {σ6 : L2.St} {H6 : Hp} {Q : Shared → Prop}, Inv (X.suite a ((a, oe4) :: (X.pn ++ pins))) [] σ6 H6 s6 → (∀ s7, Inv X pins (σ6.set i none) H6 s7 → Q s7) →
        wpAny (model X.prog X.w) X.A (do bindName X.env n .none; unbindBehindTheSuite X.env n pos') (fun _ s7 => Q s7) X.xe s6 := fun {σ6 H6 Q} S6 hq => gone_ok (S6.unsuite ok) hN hi hln hq
    cases f with
    | next =>
      obtain ⟨σ6, H6, S6, q6⟩ := hsp
      exact end_ S6 fun s7 J7 => ⟨_, _, J7, q6⟩
    | brk =>
      obtain ⟨σ6, H6, S6, q6⟩ := hsp
      exact end_ S6 fun s7 J7 => ⟨_, _, J7, q6⟩
    | cont =>
      obtain ⟨σ6, H6, S6, q6⟩ := hsp
      exact end_ S6 fun s7 J7 => ⟨_, _, J7, q6⟩
    | ret u =>
      obtain ⟨v6, σ6, H6, S6, r6, q6⟩ := hsp
      exact end_ S6 fun s7 J7 => ⟨_, _, _, J7, r6, q6⟩
  · cases f with
    | next =>
      obtain ⟨σ', H', J', q⟩ := hsp
      exact wpAny_execs_nil ⟨σ', H', J'.ofTry ok, q⟩
    | brk =>
      obtain ⟨σ', H', J', q⟩ := hsp
      exact ⟨σ', H', J'.ofTry ok, q⟩
    | cont =>
      obtain ⟨σ', H', J', q⟩ := hsp
      exact ⟨σ', H', J'.ofTry ok, q⟩
    | ret u =>
      obtain ⟨v, σ', H', J', r, q⟩ := hsp
      exact ⟨v, σ', H', J'.ofTry ok, r, q⟩
end
/-! ### plain data: no exception, no lambda in it -/
mutual
def plainD : D → Bool
  | .exc _ _ => false | .lam => false
  | .tup ds => plainL ds | .lst ds => plainL ds | .rol ds => plainL ds | .rot ds => plainL ds
  | .dK kvs => plainP kvs | .dT kvs => plainQ kvs
  | .ins _ ds => plainL ds
  | .non => true | .bl _ => true | .int _ => true | .str _ => true
def plainL : List D → Bool
  | [] => true
  | d :: ds => plainD d && plainL ds
def plainP : List (Key × D) → Bool
  | [] => true
  | (_, d) :: ds => plainD d && plainP ds
def plainQ : List (List Key × D) → Bool
  | [] => true
  | (_, d) :: ds => plainD d && plainQ ds
end
def isXd : HO → Bool
  | .xd _ => true | _ => false
section
variable {K : PySem.W.Frag} {T T' : Tab} {G G' H H' : Hp}
theorem sqL_cv (hG : ∀ b o, isXd o = false → G b = some o → G' b = some o) {p : Addr} {xs : List V} (h : SqL K G p xs) : SqL K G' p xs := by
  rcases h with (h | ⟨ob, h⟩) | h
  · exact .inl (.inl (hG _ _ rfl h))
  · exact .inl (.inr ⟨ob, hG _ _ rfl h⟩)
  · exact .inr h
theorem sqT_cv (hG : ∀ b o, isXd o = false → G b = some o → G' b = some o) {p : Addr} {xs : List V} (h : SqT K G p xs) : SqT K G' p xs := by
  rcases h with (h | ⟨ob, h⟩) | h
  · exact .inl (.inl (hG _ _ rfl h))
  · exact .inl (.inr ⟨ob, hG _ _ rfl h⟩)
  · exact .inr h
mutual
theorem Rep.cv (hC : T.C = T'.C) (hL : T.L = T'.L) (hG : ∀ b o, isXd o = false → G b = some o → G' b = some o) : ∀ {d : D} {v : V}, plainD d = true → Rep K T G d v → Rep K T' G' d v
  | .non, _, _, h => h
  | .bl _, _, _, h => h
  | .int _, _, _, h => h
  | .str _, _, _, h => h
  | .tup _, _, z, ⟨p, vs, h1, h2, h3⟩ => ⟨p, vs, h1, hG _ _ rfl h2, RepL.cv hC hL hG (by unfold plainD at z; exact z) h3⟩
  | .lst _, _, z, ⟨p, vs, h1, h2, h3⟩ => ⟨p, vs, h1, hG _ _ rfl h2, RepL.cv hC hL hG (by unfold plainD at z; exact z) h3⟩
  | .rol _, _, z, ⟨p, vs, h1, h2, h3⟩ => ⟨p, vs, h1, sqL_cv hG h2, RepL.cv hC hL hG (by unfold plainD at z; exact z) h3⟩
  | .rot _, _, z, ⟨p, vs, h1, h2, h3⟩ => ⟨p, vs, h1, sqT_cv hG h2, RepL.cv hC hL hG (by unfold plainD at z; exact z) h3⟩
  | .dK _, _, z, ⟨p, vs, h1, h2, h3⟩ => ⟨p, vs, h1, hG _ _ rfl h2, RepP.cv hC hL hG (by unfold plainD at z; exact z) h3⟩
  | .dT _, _, z, ⟨p, vs, h1, h2, h3⟩ => ⟨p, vs, h1, hG _ _ rfl h2, RepQ.cv hC hL hG (by unfold plainD at z; exact z) h3⟩
  | .ins _ _, _, z, ⟨p, dx, vs, h1, h2, h3, h4⟩ => ⟨p, dx, vs, h1, by rw [← hC, ← hL]; exact hG _ _ rfl h2, by rw [← hL]; exact h3, RepL.cv hC hL hG (by unfold plainD at z; exact z) h4⟩
  | .exc _ _, _, z, _ => by unfold plainD at z; cases z
  | .lam, _, z, _ => by unfold plainD at z; cases z
theorem RepL.cv (hC : T.C = T'.C) (hL : T.L = T'.L) (hG : ∀ b o, isXd o = false → G b = some o → G' b = some o) : ∀ {ds : List D} {vs : List V}, plainL ds = true → RepL K T G ds vs → RepL K T' G' ds vs
  | [], _, _, h => h
  | _ :: _, _, z, ⟨v, r, h1, h2, h3⟩ => by
    unfold plainL at z
    obtain ⟨z1, z2⟩ := Bool.and_eq_true_iff.mp z
    exact ⟨v, r, h1, Rep.cv hC hL hG z1 h2, RepL.cv hC hL hG z2 h3⟩
theorem RepP.cv (hC : T.C = T'.C) (hL : T.L = T'.L) (hG : ∀ b o, isXd o = false → G b = some o → G' b = some o) : ∀ {ds : List (Key × D)} {vs : List (Key × V)}, plainP ds = true → RepP K T G ds vs → RepP K T' G' ds vs
  | [], _, _, h => h
  | (_, _) :: _, _, z, ⟨v, r, h1, h2, h3⟩ => by
    unfold plainP at z
    obtain ⟨z1, z2⟩ := Bool.and_eq_true_iff.mp z
    exact ⟨v, r, h1, Rep.cv hC hL hG z1 h2, RepP.cv hC hL hG z2 h3⟩
theorem RepQ.cv (hC : T.C = T'.C) (hL : T.L = T'.L) (hG : ∀ b o, isXd o = false → G b = some o → G' b = some o) : ∀ {ds : List (List Key × D)} {vs : List (List Key × V)}, plainQ ds = true → RepQ K T G ds vs → RepQ K T' G' ds vs
  | [], _, _, h => h
  | (_, _) :: _, _, z, ⟨v, r, h1, h2, h3⟩ => by
    unfold plainQ at z
    obtain ⟨z1, z2⟩ := Bool.and_eq_true_iff.mp z
    exact ⟨v, r, h1, Rep.cv hC hL hG z1 h2, RepQ.cv hC hL hG z2 h3⟩
end
theorem Own.cv {p : Addr} {d : D} (hC : T.C = T'.C) (hL : T.L = T'.L) (hG : ∀ b o, isXd o = false → G b = some o → G' b = some o) (z : plainD d = true) (h : Own K T G H p d) : Own K T' G' H p d := by
  cases d with
  | lst ds => obtain ⟨vs, h, k⟩ := h; exact ⟨vs, h, RepL.cv hC hL hG (by unfold plainD at z; exact z) k⟩
  | dK ds => obtain ⟨vs, h, k⟩ := h; exact ⟨vs, h, RepP.cv hC hL hG (by unfold plainD at z; exact z) k⟩
  | dT ds => obtain ⟨vs, h, k⟩ := h; exact ⟨vs, h, RepQ.cv hC hL hG (by unfold plainD at z; exact z) k⟩
  | ins c ds => obtain ⟨dx, vs, h, l, k⟩ := h; exact ⟨dx, vs, by rw [← hC, ← hL]; exact h, by rw [← hL]; exact l, RepL.cv hC hL hG (by unfold plainD at z; exact z) k⟩
  | _ => exact h.elim
end
end Pf
/-! part Ph6 -/
set_option Elab.async false
set_option linter.all false
set_option maxRecDepth 100000
set_option maxHeartbeats 2000000
/-! Ph6: the try statement, by plain functions. -/
namespace Pf
open PySem PySem.Spec PyProof.Rows L2 HotX
/-- the body's frame: what is kept at its start, what may leave it -/
def bT (B : Bs) (G : Hp) (wx : D → Ve → Prop) (mk : MkT B.T G) : Bs := ⟨B.T, B.H0, G, B.M, wx, B.mm, mk⟩
/-- try: b; except (the classes of okc) as n: return m(n) -/
def sTryF (b : SF) (okc : Nat → Bool) (i : Nat) (m : FM) : SF := fun ρ => match b ρ with
  | .ex (.ins c fs) ρ1 => if okc c = true ∧ i < ρ1.length ∧ plainL fs = true then (match m [.exc c fs] with
      | .ok fl d _ => if plainD d = true then .rt fl d ρ1 else .no
      | _ => .no) else .no
  | .ex _ _ => .no
  | r => r
section
variable {X : Cx} {B : Bs} {K : PySem.W.Frag} {T : Tab} {G G' H H' : Hp} {σ σ' : L2.St} {ρ ρ' : Ve} {Q : VK} {v : V} {Dn : Ends}
theorem Sim.tr {wx : D → Ve → Prop} (S : Sim K B G H σ ρ) (mk : MkT B.T G) : Sim K (bT B G wx mk) G H σ ρ where
  ex := S.ex
  new := fun a o h => .inl h
  g0 := Ex.refl _
  fr := S.fr
  al := S.al
  len := S.len
  sl := S.sl
  dis := S.dis
theorem Sim.untr {wx : D → Ve → Prop} {mk : MkT B.T G} (S0 : Sim K B G H σ ρ) (S : Sim K (bT B G wx mk) G' H' σ' ρ') : Sim K B G' H' σ' ρ' where
  ex := S.ex
  new := fun a o h => by
    rcases S.new a o h with z | z | z
    · exact S0.new a o z
    · exact .inr (.inl z)
    · exact .inr (.inr z)
  g0 := S0.g0.trans S.g0
  fr := S.fr
  al := S.al
  len := S.len
  sl := S.sl
  dis := S.dis
/-- the handler's answer, back in the def's frame -/
theorem hand_back {T0 : Tab} (hC : T0.C = T.C) (hL : T0.L = T.L) (htb : T0.tb = T.tb) {a dx : Addr} {c : Nat} {fs : List D} {ws : List V} {m : FM} {fl : Bool} {d out : D} {E : XK} (mk : MkT T G) (x : Exr G H) (hx : H dx = some (.xd ((T.L c).zip ws))) (hl : ws.length = (T.L c).length) (r : RepL K T G fs ws) (pf : plainL fs = true) (pd : plainD d = true) (hm : m [.exc c fs] = .ok fl d out)
    (q : ∀ G' H' v, NewOk K T G H G' H' fl v d → Q v H') : spH K T0 1 m a (.ref (T.C c)) (some dx) [.ref a] H Q E := by
  rw [← hC]
  rw [← hL] at hx hl
  have n1 : ∀ b o, G b = some o → isXd o = false → b ≠ dx := fun b o h n z => by
    subst z
    rcases x b o h with ⟨_, w⟩ | ⟨_, ob, w⟩ | w
    · rw [hx] at w; cases w; cases n
    · rw [hx] at w; cases w
    · obtain ⟨ps, w⟩ := w.tbl; rw [hx] at w; cases w
  have n2 : ∀ o, G dx = some o → o = .xd ((T0.L c).zip ws) := fun o h => by
    rcases x dx o h with ⟨_, w⟩ | ⟨_, ob, w⟩ | w
    · rw [hx] at w; exact (Option.some.inj w).symm
    · rw [hx] at w; cases w
    · obtain ⟨ps, w⟩ := w.tbl; rw [hx] at w; cases w
  have eG : Ex G (upd G dx (.xd ((T0.L c).zip ws))) := fun b o h => by
    by_cases hb : b = dx
    · subst hb; rw [upd_same, n2 o h]
    · rw [upd_ne hb]; exact h
  refine ⟨dx, c, rfl, rfl, rfl, upd G dx (.xd ((T0.L c).zip ws)), [.exc c fs], fun b o h => ?_, fun p hp => eG _ _ (mk p (by rw [← htb]; exact hp)), ⟨_, [], rfl, ⟨a, dx, ws, rfl, rfl, upd_same, hl, ?_⟩, rfl⟩, ?_⟩
  · by_cases hb : b = dx
    · subst hb; rw [upd_same] at h; cases h; exact .inl ⟨rfl, hx⟩
    · rw [upd_ne hb] at h; exact x b o h
  · exact RepL.cv (T := T) (T' := T0.hot a dx c) hC.symm hL.symm (fun b o _ h => eG b o h) pf r
  · rw [hm]
    intro G' H' v nw
    obtain ⟨gr, k⟩ := nw
    have hx' : H' dx = some (.xd ((T0.L c).zip ws)) := gr.f dx _ hx rfl
    have gx : ∀ o, G' dx = some o → o = .xd ((T0.L c).zip ws) := fun o h => by
      rw [gr.e dx _ upd_same] at h; exact (Option.some.inj h).symm
    have cv : ∀ b o, isXd o = false → G' b = some o → (fun b => if b = dx then G dx else G' b) b = some o := fun b o n h => by
      have hb : b ≠ dx := fun z => by subst z; rw [gx o h] at n; cases n
      show (if b = dx then G dx else G' b) = some o
      rw [if_neg hb]; exact h
    refine q (fun b => if b = dx then G dx else G' b) H' v ⟨⟨fun b o h => ?_, fun b o h => ?_, fun b o h => ?_, gr.f, gr.m⟩, ?_⟩
    · show (if b = dx then G dx else G' b) = some o
      by_cases hb : b = dx
      · rw [if_pos hb, ← hb]; exact h
      · rw [if_neg hb]; exact gr.e _ _ (by rw [upd_ne hb]; exact h)
    · have h : (if b = dx then G dx else G' b) = some o := h
      by_cases hb : b = dx
      · rw [if_pos hb] at h
        rw [hb, n2 o h]
        exact .inl ⟨rfl, hx'⟩
      · rw [if_neg hb] at h; exact gr.x b o h
    · have h : (if b = dx then G dx else G' b) = some o := h
      by_cases hb : b = dx
      · rw [if_pos hb] at h; rw [hb]; exact .inl h
      · rw [if_neg hb] at h
        rcases gr.n b o h with z | z | z
        · rw [upd_ne hb] at z; exact .inl z
        · exact .inr (.inl z)
        · exact .inr (.inr z)
    · cases fl with
      | false => exact Rep.cv (T := T0.hot a dx c) (T' := T) hC hL cv pd k
      | true =>
        obtain ⟨p, e, hp, hg, ho⟩ := k
        have hb : p ≠ dx := fun z => by rw [z, hx] at hp; cases hp
        refine ⟨p, e, hp, ?_, Own.cv (T := T0.hot a dx c) (T' := T) hC hL cv pd ho⟩
        show (if p = dx then G dx else G' p) = none
        rw [if_neg hb]; exact hg
/-- THE RULE: try: body, except x as n: return f(n), further clauses -/
theorem ps_tryF {T0 : Tab} (hC : T0.C = B.T.C) (hL : T0.L = B.T.L) (htb : T0.tb = B.T.tb) {x n y : Str} {cv : Value} {i k : Nat} {fa : Addr} {m : FM} {okc : Nat → Bool} {body : List Stmt} {np pos pos' py pn' pr pcall : Pos} {bf : SF} {more : List ExceptHandler} (hs : X.stack = X.env :: X.outer) (hf : X.env.frame = some X.env.locals) (hN : X.N.Nodup) (hi : X.N[i]? = some n) (hln : X.env.kindOf n = some .local) (hc : Names X x cv)
    (hcls : ∀ c, okc c = true → PySem.W.exmOne X.K (.ref (B.T.C c)) cv = some true) (F : FnHR X.prog X.w X.K X.mg X.base (L2N.CX X.prog X.w) k fa (spH X.K T0 1 m)) (hr : Room k X.A) (hg : Gl X y) (hm : X.mg y = some (.ref fa)) (hk : PySem.W.keepIn X.K (.ref fa) = true)
    (hb : ∀ (G : Hp) (wx : D → Ve → Prop) (mk : MkT B.T G) (pn : List (Addr × Obj)) (xe : Value → Shared → Prop), XOk (X.tr pn xe) (bT B G wx mk) → PSs (X.tr pn xe) body (tS X.K (bT B G wx mk) bf))
    (hdb : (y == ("__debug__" : Str)) = false := by decide) (hnd : (n == ("__debug__" : Str)) = false := by decide) (hnc : (n == ("__classdict__" : Str)) = false := by decide) :
    PS X (.Try body (.ExceptHandler (some (.Name x np)) (some n) [.Return (some (.Call (.Name y py) [.Name n pn'] [] pcall)) pr] pos' :: more) [] [] pos) (tS X.K B (sTryF bf okc i m)) := by
  have hloc : Loc X.env.scope n := .inl hln
  refine PS.imp (ps_try_first (c := cv) (i := i) (tb := fun W => fun D σ H => ∃ (G : Hp) (wx : Pf.D → Ve → Prop) (mk : MkT B.T G), (∀ (G' H : Hp) (σ : L2.St) (ρ : Ve) (x : Pf.D) (cls : Value) (d : Option Addr), Sim X.K (bT B G wx mk) G' H σ ρ → wx x ρ → ExRep X.K B.T G' H x cls d → W cls d σ H) ∧ tS X.K (bT B G wx mk) bf D σ H)
    (ts := fun a cls d => fun D σ H => ∃ v, σ[i]? = some (some v) ∧ spH X.K T0 1 m a cls d [v] H D.rt (fun _ _ _ => False)) hs hf hN hi hln hc (fun W pn xe tk _ => ?_) (fun a oe cls d pn hz hfl => ?_)) fun D σ H ⟨G, ρ, S, q⟩ => ?_
  · refine ⟨fun pins s σ H D I ⟨G, wx, mk, hW, q⟩ => ?_⟩
    exact (hb G wx mk pn xe ⟨⟨W, tk, fun G' H σ ρ x cls d => hW G' H σ ρ x cls d⟩⟩).run pins s σ H D I q
  · have hot : L2H.Hot1 (X.A.mark (some (.ref a))) (a, oe) := by
      obtain ⟨vs, e⟩ := hfl
      exact ⟨rfl, vs, e, hz.2.2 vs e⟩
    have va : PE (X.suite a ((a, oe) :: pn)) (.Name n pn') (tVar i) := pe_var hi (.inl hln) hnd hnc
    have call := pe_HR (X := X.suite a ((a, oe) :: pn)) (e := .Name n pn') (es := []) (x := y) (p := py) (pos := pcall) (pp := (a, oe)) (W := fun _ _ _ _ => False) (sp0 := spH X.K T0 1 m a cls d) takes_no F (fun vs H Q E z => by
      show spH X.K T0 1 m a oe.cls oe.dict vs H Q E
      rw [hz.1, hz.2.1]; exact z) (L2H.roomH_mark hr _) hot (by show (a, oe) ∈ (a, oe) :: pn; simp) hg hm hk (pa_cons va pa_nil) hdb
    refine pss_one (PS.imp (ps_ret call) fun D σ H ⟨v, e, q⟩ => ?_)
    exact ⟨v, e, q⟩
  · refine ⟨G, fun x ρ1 => ∃ c fs, x = .ins c fs ∧ (okc c = true ∧ i < ρ1.length ∧ plainL fs = true) ∧ ∃ fl d out, m [.exc c fs] = .ok fl d out ∧ plainD d = true ∧ PostS X.K B G D (.rt fl d ρ1), S.tbs, fun G1 H1 σ1 ρ1 x cls dd S1 hw er => ?_, G, ρ, S.tr S.tbs, ?_⟩
    · obtain ⟨c, fs, rfl, ⟨h1, h2, h3⟩, fl, d, out, h4, h5, h6⟩ := hw
      cases dd with
      | none => exact er.elim
      | some dx =>
        obtain ⟨rfl, ws, hx, hl, r⟩ := er
        refine ⟨hcls c h1, fun a ha => ⟨.ref a, ?_, ?_⟩⟩
        · rw [List.getElem?_set_self (by rw [S1.len]; exact h2)]
        · refine hand_back hC hL htb (G := G1) (S1.tbs) S1.ex hx hl r h3 h5 h4 fun G' H' v nw => ?_
          have S2 := S1.grow nw.1
          have e1 : Ex G G' := S2.g0
          exact h6 G' H' σ1 v e1 (S.untr S2) (nw.val (S.untr S1))
    · dsimp only [sTryF] at q
      cases hbf : bf ρ with
      | ex x ρ1 =>
        rw [hbf] at q
        cases x with
        | ins c fs =>
          dsimp only at q
          by_cases hcnd : okc c = true ∧ i < ρ1.length ∧ plainL fs = true
          · rw [if_pos hcnd] at q
            cases hmm : m [.exc c fs] with
            | ok fl d out =>
              rw [hmm] at q
              dsimp only at q
              by_cases hp : plainD d = true
              · rw [if_pos hp] at q
                exact ⟨c, fs, rfl, hcnd, fl, d, out, hmm, hp, q⟩
              · rw [if_neg hp] at q; exact q.elim
            | ex _ _ => rw [hmm] at q; exact q.elim
            | no => rw [hmm] at q; exact q.elim
          · rw [if_neg hcnd] at q; exact q.elim
        | _ => exact q.elim
      | nx ρ1 => rw [hbf] at q; exact fun G1 H1 σ1 e1 S1 => q G1 H1 σ1 e1 (S.untr S1)
      | br ρ1 => rw [hbf] at q; exact fun G1 H1 σ1 e1 S1 => q G1 H1 σ1 e1 (S.untr S1)
      | ct ρ1 => rw [hbf] at q; exact fun G1 H1 σ1 e1 S1 => q G1 H1 σ1 e1 (S.untr S1)
      | rt fl d ρ1 => rw [hbf] at q; exact fun G1 H1 σ1 v e1 S1 k => q G1 H1 σ1 v e1 (S.untr S1) k
      | no => rw [hbf] at q; exact q
end
end Pf
/-! part Ph7 -/
set_option Elab.async false
set_option linter.all false
set_option maxRecDepth 100000
set_option maxHeartbeats 2000000
/-! Ph7: lambdas without parameters: made, handed on, called. -/
namespace Pf
open PySem PySem.Spec PyProof.Rows L2 LamX
/-- what the making of a lambda does to the heap -/
def LamStep (H H1 : Hp) (P c' : Addr) (q : Str) : Prop := (H1 = H ∧ H c' = some (CodeO c' q)) ∨ (H c' = none ∧ ∃ ps : Array Value, H1 = upd (upd H P (.tbl ps)) c' (CodeO c' q) ∧ TabS H1 P q)
section
variable {X : Cx} {pins : List (Addr × Obj)} {σ : L2.St} {H : Hp} {s : Shared}
theorem lam_make3 {c P : Addr} {params : Arguments} {body : Expr} {scope : Scope} {pos : Pos} {E : Value → Shared → Prop} {Q : Value → Shared → Prop} (I : Inv X pins σ H s) (TB : TabB X.base X.mg c P) (hcode : X.env.code = .ref c)
    (hT : TabS H P (X.env.qual ++ "<lambda>")) (hdef : defaultsOf params X.env = ([], [])) (hfree : ∀ y ∈ scope.names, y.2 = .free → ∃ c, X.env.cells.lookup y.1 = some c)
    (h : ∀ (f c' : Addr) (pm ctv : Value) (H1 : Hp) (s' : Shared), Inv X pins σ H1 s' → LamStep H H1 P c' (X.env.qual ++ "<lambda>") →
      s'.heap.get? f = some (PySem.W.kla_obj "<lambda>" (X.env.qual ++ "<lambda>") params body scope (cloFrom X.env.cells scope.names []) pm c' ctv) → H1 f = none → f ≠ X.env.locals → f ∉ frs X.stack → H1 c' = some (CodeO c' (X.env.qual ++ "<lambda>")) → Q (.ref f) s') :
    wpAny (model X.prog X.w) X.A (eval (.Lambda params body scope pos) X.env) Q E s := by
  obtain ⟨ps, hP, ht, ha⟩ := hT
  refine PySem.W.kla_eval hdef ?_
  have bP : s.heap.BuiltinsAt X.mg P := TB.bm.keeps I.bk
  have hP' : s.heap.get? P = some { cls := .none, data := .fields ps } := I.hok P _ hP
  have nofr : ∀ f, s.heap.objs.size ≤ f → f ∉ frs X.stack := fun f hf z => by
    rcases List.mem_cons.mp (I.stkSub _ z) with e | e
    · have h1 := I.lt
      rw [← e] at h1
      exact Nat.lt_irrefl _ (Nat.lt_of_lt_of_le h1 hf)
    · exact I.nofs hf e
  have nloc : ∀ f, s.heap.objs.size ≤ f → f ≠ X.env.locals := fun f hf z => by
    have h1 := I.lt
    rw [← z] at h1
    exact Nat.lt_irrefl _ (Nat.lt_of_lt_of_le h1 hf)
  cases hc : codeAmong pos ps.toList with
  | none =>
    refine PySem.W.kla_makeFunction (mg := X.mg) (c := c) (P := P) (ps := ps) (closure_ok hfree) I.ok.glob (I.mod.glob.keeps I.bk) hcode (TB.code.keeps I.bk) hP' ht hc TB.gP bP fun c' ctv h' tk hx hge hlt hrec htb => ?_
    obtain ⟨c2, oc, vs, t, e2, hoc, hd, hv⟩ := hrec
    cases e2
    have hsz : s.heap.objs.size ≤ h'.objs.size := Nat.le_trans hge (Nat.le_of_lt hlt)
    have nC : H c' = none := I.hok.fresh hge
    have I1 := inv_table (t' := tk) (more := #[rawInt pos.line, rawInt pos.col, .ref c']) (h' := h'.push (PySem.W.kla_obj "<lambda>" (X.env.qual ++ "<lambda>") params body scope (cloFrom X.env.cells scope.names []) ((X.mg "__name__").getD .none) c' ctv)) I hP
      (fun b o hb e => Heap.get?_push_of_some _ (hx b o hb e)) (Heap.get?_push_of_some _ htb) hge ⟨oc, vs, t, Heap.get?_push_of_some _ hoc, hd, hv⟩
    have hE : ∀ b o, H b = some o → (∀ ps, o ≠ .tbl ps) → (upd (upd H P (.tbl (ps ++ #[rawInt pos.line, rawInt pos.col, .ref c']))) c' (CodeO c' (X.env.qual ++ "<lambda>"))) b = some o := fun b o e n => by
      rw [upd_ne (ne_of_none e nC), upd_ne (fun z => n ps (Option.some.inj (e.symm.trans (by rw [z]; exact hP))))]
      exact e
    have eL : (ps ++ #[rawInt pos.line, rawInt pos.col, .ref c']).toList = ps.toList ++ [rawInt pos.line, rawInt pos.col, .ref c'] := by simp
    refine h h'.objs.size c' ((X.mg "__name__").getD .none) ctv _ _ I1 (.inr ⟨nC, _, rfl, _, by rw [upd_ne (ne_of_none hP nC), upd_same], by rw [eL]; exact PySem.TriplesOk_snoc _ _ _ _ ht, fun p' cv hcv => ?_⟩) (Heap.get?_push_size _ rfl) ?_ (nloc _ hsz) (nofr _ hsz) upd_same
    · rw [eL] at hcv
      rcases among_app _ ht hcv with z | z
      · obtain ⟨c0, e1, e2⟩ := ha p' cv z
        exact ⟨c0, e1, hE _ _ e2 codeO_ne⟩
      · exact ⟨c', z, upd_same⟩
    · have n1 : h'.objs.size ≠ c' := Nat.ne_of_gt hlt
      have n2 : h'.objs.size ≠ P := Nat.ne_of_gt (Nat.lt_of_lt_of_le (Heap.lt_size hP') hsz)
      rw [upd_ne n1, upd_ne n2]
      exact I.hok.fresh hsz
  | some cv =>
    obtain ⟨c', e, hco⟩ := ha pos cv hc
    subst e
    refine PySem.W.kla_makeFunctionHit (mg := X.mg) (c := c) (P := P) (ps := ps) (closure_ok hfree) I.ok.glob (I.mod.glob.keeps I.bk) hcode (TB.code.keeps I.bk) hP' ht hc bP fun ctv h' tk hx hsz => ?_
    have I1 : Inv X pins σ H { s with heap := h'.push (PySem.W.kla_obj "<lambda>" (X.env.qual ++ "<lambda>") params body scope (cloFrom X.env.cells scope.names []) ((X.mg "__name__").getD .none) c' ctv), toks := tk } := I.kept fun b o e => Heap.get?_push_of_some _ (hx b o e)
    exact h h'.objs.size c' ((X.mg "__name__").getD .none) ctv H _ I1 (.inl ⟨rfl, hco⟩) (Heap.get?_push_size _ rfl) (I.hok.fresh hsz) (nloc _ hsz) (nofr _ hsz) hco
end
/-- the plain reading of that step: the code object is kept from now on -/
theorem LamStep.grow {G H H1 : Hp} {P c' : Addr} {q : Str} (st : LamStep H H1 P c' q) (x : Exr G H) (hP : G P = some (mkT q)) (hc : H1 c' = some (CodeO c' q)) :
    ∃ G1, Grow G H G1 H1 ∧ G1 c' = some (CodeO c' q) := by
  have keep : ∀ a o, H a = some o → isTb o = false → H1 a = some o := fun a o h n => by
    rcases st with ⟨rfl, _⟩ | ⟨nC, ps, rfl, _⟩
    · exact h
    · rw [upd_ne (ne_of_none h nC)]
      by_cases ha : a = P
      · rw [ha] at h
        obtain ⟨ps', hp, _⟩ := x.tb hP
        rw [hp] at h; cases h; cases n
      · rw [upd_ne ha]; exact h
  have gone : ∀ a, H1 a = none → H a = none := fun a h => by
    rcases st with ⟨rfl, _⟩ | ⟨nC, ps, rfl, _⟩
    · exact h
    · have h1 := upd_none h
      by_cases ha : a = P
      · rw [ha, upd_same] at h1; cases h1
      · rw [upd_ne ha] at h1; exact h1
  have tabs : ∀ a q', TabS H a q' → G a = some (mkT q') → TabS H1 a q' := fun a q' t g => by
    rcases st with ⟨rfl, _⟩ | ⟨nC, ps, e, t1⟩
    · exact t
    · by_cases ha : a = P
      · rw [ha, hP] at g
        rw [ha, ← mkT_inj (Option.some.inj g)]; exact t1
      · obtain ⟨ps', h1, h2, h3⟩ := t
        have n1 : isTb (HO.tbl ps') = true := rfl
        refine ⟨ps', by rw [e, upd_ne (ne_of_none h1 nC), upd_ne ha]; exact h1, h2, fun pos cv hcv => ?_⟩
        obtain ⟨c0, e1, e2⟩ := h3 pos cv hcv
        exact ⟨c0, e1, keep _ _ e2 rfl⟩
  have ex1 : Exr G H1 := fun a o h => by
    rcases x a o h with ⟨n, z⟩ | ⟨z, ob, w⟩ | ⟨q', e, t⟩
    · exact .inl ⟨n, keep a o z n⟩
    · exact .inr (.inl ⟨z, ob, keep _ _ w rfl⟩)
    · subst e; exact .inr (.inr ⟨q', rfl, tabs a q' t h⟩)
  have gc : ∀ o, G c' = some o → o = CodeO c' q := fun o h => by
    rcases ex1 c' o h with ⟨_, w⟩ | ⟨_, ob, w⟩ | w
    · rw [hc] at w; exact (Option.some.inj w).symm
    · rw [hc] at w; exact absurd (Option.some.inj w) (by unfold CodeO; intro z; cases z)
    · obtain ⟨ps, w⟩ := w.tbl; rw [hc] at w; exact absurd (Option.some.inj w) (by unfold CodeO; intro z; cases z)
  refine ⟨upd G c' (CodeO c' q), ⟨fun a o h => ?_, fun a o h => ?_, fun a o h => ?_, keep, gone⟩, upd_same⟩
  · by_cases ha : a = c'
    · subst ha; rw [upd_same, gc o h]
    · rw [upd_ne ha]; exact h
  · by_cases ha : a = c'
    · subst ha; rw [upd_same] at h; cases h; exact .inl ⟨rfl, hc⟩
    · rw [upd_ne ha] at h; exact ex1 a o h
  · by_cases ha : a = c'
    · subst ha; rw [upd_same] at h; cases h; exact .inr (.inr rfl)
    · rw [upd_ne ha] at h; exact .inl h
end Pf
/-! part Ph8 -/
set_option Elab.async false
set_option linter.all false
set_option maxRecDepth 100000
set_option maxHeartbeats 2000000
/-! Ph8: a lambda that is handed on: what it does; its call. -/
namespace Pf
open PySem PySem.Spec PyProof.Rows L2 LamX
theorem un_trans2 {fs fs' : List Addr} {H H1 H2 : Hp} {h h1 h2 : Heap} (a : Un fs [] H H1 h h1) (b : Un fs' [] H1 H2 h1 h2) (sub : ∀ x ∈ fs, x ∈ fs') (new : ∀ x ∈ fs', x ∉ fs → h.get? x = none) : Un fs [] H H2 h h2 where
  keep := fun b' o z n hf hx => by
    refine b.keep b' o (a.keep b' o z n hf hx) (a.free b' o z n hx) (fun m => ?_) hx
    rw [new b' m hf] at z; cases z
  slot := fun b' o z n hf hx => by
    obtain ⟨sl, q⟩ := a.slot b' o z n hf hx
    obtain ⟨sl2, q2⟩ := b.slot b' _ q (a.free b' o z n hx) (sub _ hf) hx
    exact ⟨sl2, q2⟩
  free := fun b' o z n hx => by
    obtain ⟨o1, q⟩ := a.there b' o z hx
    exact b.free b' o1 q (a.free b' o z n hx) hx
  there := fun b' o z hx => by
    obtain ⟨o1, q⟩ := a.there b' o z hx
    exact b.there b' o1 q hx
  tups := fun b' xs z => b.tups _ _ (a.tups _ _ z)
  frzs := fun b' o u z => b.frzs _ _ _ (a.frzs _ _ _ z)
  tbls := fun b' ps z => by
    obtain ⟨m1, q1⟩ := a.tbls _ _ z
    obtain ⟨m2, q2⟩ := b.tbls _ _ q1
    exact ⟨m1 ++ m2, by rw [← Array.append_assoc]; exact q2⟩
def Tab.lam (T : Tab) (f : Addr) (good : Hp → Prop) (gm : ∀ G G' : Hp, (∀ a o, G a = some o → G' a = some o) → good G → good G') : Tab := { T with lf := some f, lg := good, lm := gm }
/-- what the call of a lambda gives: r -/
def spL (K : PySem.W.Frag) (T : Tab) (good : Hp → Prop) (r : FR) (H : Hp) (Q : VK) (E : XK) : Prop := ∃ G : Hp, Exr G H ∧ MkT T G ∧ good G ∧ match r with
  | .ok fl d _ => ∀ G' H' v, NewOk K T G H G' H' fl v d → Q v H'
  | .ex x _ => ∀ G' H' cls d, Grow G H G' H' → ExRep K T G' H' x cls d → E cls d H'
  | .no => False
/-- a lambda stands at f, from the state h, H on -/
structure LamAt (P : Program) (w : World) (K : PySem.W.Frag) (mg : Str → Option Value) (base : Heap) (T : Tab) (k : Nat) (f : Addr) (good : Hp → Prop) (r : FR) (outer : List Env) (h : Heap) (H : Hp) : Prop where
  obj : PySem.W.FnAt f h
  fn : H f = none
  fr : f ∉ frs outer
  run : ∀ (A : Around) (outer' : List Env) (s2 : Shared) (H2 : Hp) (Q : VK) (E : XK), Un (frs outer) [] H H2 h s2.heap → Room k A → Env0 P w K mg base A outer' s2 H2 → spL K T good r H2 Q E →
    codeAny (model P w) A (.call (.ref f) ⟨[], []⟩) (L2.CR (L2N.CX P w) outer' P w H2 s2 Q E) s2
section
variable {P : Program} {w : World} {K : PySem.W.Frag} {mg : Str → Option Value} {base : Heap} {T : Tab} {k : Nat} {f : Addr} {good : Hp → Prop} {r : FR} {outer : List Env} {h h1 : Heap} {H H1 : Hp}
theorem LamAt.at_ (L : LamAt P w K mg base T k f good r outer h H) (u : Un (frs outer) [] H H1 h h1) : PySem.W.FnAt f h1 := by
  obtain ⟨oc, od, fd, sl, e⟩ := L.obj
  exact ⟨oc, od, fd, sl, u.keep f _ e L.fn L.fr (by simp)⟩
theorem LamAt.step {env : Env} (L : LamAt P w K mg base T k f good r outer h H) (u : Un (frs outer) [] H H1 h h1) (new : ∀ x, env.frame = some x → h.get? x = none) : LamAt P w K mg base T k f good r (env :: outer) h1 H1 := by
  have fe : ∀ x ∈ frs (env :: outer), x ∉ frs outer → env.frame = some x := fun x hx hn => by
    obtain ⟨e, he, q⟩ := List.mem_filterMap.mp hx
    rcases List.mem_cons.mp he with rfl | he
    · exact q
    · exact absurd (List.mem_filterMap.mpr ⟨e, he, q⟩) hn
  have sub : ∀ x ∈ frs outer, x ∈ frs (env :: outer) := fun x hx => by
    obtain ⟨e, he, q⟩ := List.mem_filterMap.mp hx
    exact List.mem_filterMap.mpr ⟨e, List.mem_cons_of_mem _ he, q⟩
  refine ⟨L.at_ u, ?_, fun hm => ?_, fun A outer' s2 H2 Q E u2 => L.run A outer' s2 H2 Q E (un_trans2 u u2 sub fun x hx hn => new x (fe x hx hn))⟩
  · obtain ⟨oc, od, fd, sl, e⟩ := L.obj
    exact u.free f _ e L.fn (by simp)
  · obtain ⟨oc, od, fd, sl, e⟩ := L.obj
    have := new f (fe f hm L.fr)
    rw [e] at this; cases this
end
/-- a() , a the slot i that bears the lambda -/
def fLamC (r : FR) (i : Nat) : EF := fun ρ => match ρ[i]? with
  | some (some (_, .lam)) => match r with
    | .ok fl d _ => if plainD d = true then .ok fl d ρ else .no
    | .ex (.ins c fs) _ => if plainL fs = true then .ex (.ins c fs) ρ else .no
    | .ex _ _ => .no
    | .no => .no
  | _ => .no
section
variable {X : Cx} {B : Bs} {K : PySem.W.Frag} {T T' : Tab} {G G' H H' : Hp} {σ σ' : L2.St} {ρ ρ' : Ve} {Q : VK} {v : V} {e : Expr} {es : List Expr}
theorem NewOk.cv {fl : Bool} {d : D} (hC : T.C = T'.C) (hL : T.L = T'.L) (z : plainD d = true) (n : NewOk K T G H G' H' fl v d) : NewOk K T' G H G' H' fl v d := by
  obtain ⟨g, k⟩ := n
  refine ⟨g, ?_⟩
  cases fl with
  | false => exact Rep.cv hC hL (fun _ _ _ h => h) z k
  | true => obtain ⟨p, e, hp, hg, ho⟩ := k; exact ⟨p, e, hp, hg, Own.cv hC hL (fun _ _ _ h => h) z ho⟩
theorem ExRep.cv {c : Nat} {fs : List D} {cls : Value} {dd : Option Addr} (hC : T.C = T'.C) (hL : T.L = T'.L) (z : plainL fs = true) (n : ExRep K T G H (.ins c fs) cls dd) : ExRep K T' G H (.ins c fs) cls dd := by
  cases dd with
  | none => exact n.elim
  | some dx =>
    obtain ⟨h1, vs, h2, h3, h4⟩ := n
    exact ⟨by rw [← hC]; exact h1, vs, by rw [← hL]; exact h2, by rw [← hL]; exact h3, RepL.cv hC hL (fun _ _ _ h => h) z h4⟩
theorem pe_lamC [xk : XOk X B] {T0 : Tab} {k i : Nat} {f : Addr} {good : Hp → Prop} {gm} {r : FR} {a : Str} {p1 p2 : Pos} (hT : B.T = T0.lam f good gm) (L : LamAt X.prog X.w X.K X.mg X.base T0 k f good r X.outer X.s_0.heap X.H_0) (hex : X.ex = []) (hr : Room k X.A) (hN : X.N[i]? = some a) (hv : Vis X.env.scope a)
    (hd : (a == ("__debug__" : Str)) = false := by decide) (hcd : (a == ("__classdict__" : Str)) = false := by decide) : PE X (.Call (.Name a p1) [] [] p2) (tF X.K B (fLamC r i)) :=
  xk.ok.elim fun W hW => ⟨fun pins s σ H Q I ⟨G, ρ, S, q⟩ => by
    dsimp only [fLamC] at q
    split at q
    · rename_i fl hi
      obtain ⟨v, hs, sk⟩ := S.sl i _ _ hi
      have lam : v = .ref f ∧ good G := by
        cases fl with
        | fz =>
          obtain ⟨p, ev, h1, h2⟩ := sk
          rw [hT] at h1
          have h2 : B.T.lg G := h2
          rw [hT] at h2
          cases h1
          exact ⟨ev, h2⟩
        | ow => obtain ⟨p, _, ho, _⟩ := sk; exact ho.elim
        | bo => obtain ⟨p, _, ho, _⟩ := sk; exact ho.elim
      obtain ⟨rfl, hg⟩ := lam
      refine wpAny_Call_Name_kw (thn ((pe_var (pos := p1) (i := i) hN hv hd hcd).run pins s σ H (fun v H1 => v = .ref f ∧ H1 = H) I ⟨.ref f, hs, rfl, rfl⟩) fun u s1 ⟨v, H1, I1, r1, ev, eH⟩ => ?_)
      subst ev
      rw [eH] at I1
      obtain rfl : u = Value.ref f := r1
      have un : Un (frs X.outer) [] X.H_0 H X.s_0.heap s1.heap := by have := I1.base; rw [hex] at this; exact this
      refine PySem.W.callWith_F0 (L.at_ un) ?_
      have tC : T0.C = B.T.C := by rw [hT]; rfl
      have tL : T0.L = B.T.L := by rw [hT]; rfl
      have tt : MkT T0 G := by have := S.tbs; rw [hT] at this; exact this
      refine wpAny_call (codeAny_mono (L.run X.A X.stack s1 H Q (WE W σ) un hr I1.env0 ⟨G, S.ex, tt, hg, ?_⟩) fun rr s' hq => ?_)
      · cases r with
        | ok fl' d out =>
          dsimp only at q ⊢
          by_cases hp : plainD d = true
          · rw [if_pos hp] at q
            intro G' H' v nw
            have nw' := nw.cv (T' := B.T) tC tL hp
            exact q G' H' v nw'.1.e (S.grow nw'.1) (nw'.val S)
          · rw [if_neg hp] at q; exact q.elim
        | ex x out =>
          cases x with
          | ins c fs =>
            dsimp only at q ⊢
            by_cases hp : plainL fs = true
            · rw [if_pos hp] at q
              exact fun G' H' cls dd gr er => hW.2 G' H' σ ρ _ cls dd (S.grow gr) q (er.cv tC tL hp)
            · rw [if_neg hp] at q; exact q.elim
          | _ => exact q.elim
        | no => exact q.elim
      · cases rr with
        | error e => exact L2N.passAt hW.1 σ pins H s1 e s' I1 hq
        | ok fl =>
          cases fl with
          | ret u => exact I1.after hq
          | next => exact False.elim hq
          | brk => exact False.elim hq
          | cont => exact False.elim hq
    · exact q.elim⟩
end
/-! ### defs that are handed a lambda -/
def FnLR (P : Program) (w : World) (K : PySem.W.Frag) (mg : Str → Option Value) (base : Heap) (CX : CXT) (k : Nat) (f : Addr) (sp : List Env → Heap → Sp) : Prop :=
  ∀ (A : Around) (outer : List Env) (s : Shared) (H : Hp) (us : List Value) (vs : List V) (Q : VK) (E : XK), Room k A → Env0 P w K mg base A outer s H → Vals vs us → sp outer s.heap vs H Q E →
    codeAny (model P w) A (.call (.ref f) ⟨us, []⟩) (L2.CR CX outer P w H s Q E) s
/-- m tells by what the lambda gives -/
def spLm (P : Program) (w : World) (K : PySem.W.Frag) (mg : Str → Option Value) (base : Heap) (T : Tab) (kl n : Nat) (m : FR → FM) : List Env → Heap → Sp := fun outer h vs H Q E =>
  ∃ (f : Addr) (good : Hp → Prop) (gm : _) (r : FR), LamAt P w K mg base T kl f good r outer h H ∧ spF K (T.lam f good gm) n (m r) vs H Q E
section
variable {P : Program} {w : World} {K : PySem.W.Frag} {mg : Str → Option Value} {base : Heap} {x qual : Str} {params : Arguments} {body : List Stmt} {scope : Scope} {dvs : List V} {kws : List (Str × V)} {f : Addr} {fd : FuncData} {T : Tab}
/-- THE RULE: such a def -/
theorem fn_L {N ps : List Str} {k kl n : Nat} {sf : FR → SF} (F : FunD K x qual params body scope dvs kws f fd) (S : FnScope N ps scope) (hb : Binds K fd ps []) (hn : n = ps.length)
    (hbody : ∀ (cdv : Value) (A : Around) (outer : List Env) (s : Shared) (H G : Hp) (E : XK) (fl : Addr) (good : Hp → Prop) (gm : _) (r : FR) (mk : MkT (T.lam fl good gm) G), LamAt P w K mg base T kl fl good r outer s.heap H → Room k (A.deeper (envOfC qual scope s.heap.objs.size f cdv)) →
      PSs (cxOf (L2N.CX P w) P w K mg base N qual scope f cdv A outer s H E) body (tS K (b0 K (T.lam fl good gm) G H E mk) (sf r))) : FnLR P w K mg base (L2N.CX P w) (k + 1) f (spLm P w K mg base T kl n fun r => mF N.length (sf r)) := by
  have hpl : ps.length ≤ N.length := by have := congrArg List.length S.pre; rw [List.length_take] at this; omega
  obtain ⟨oc, od, dV, kV, doc, pm, an, cdv, ct, osl, rfl, lk, hcd, _, _⟩ := F.ex
  intro A outer s H us vs Q E hr e0 r ⟨fl, good, gm, rr, L, hsp⟩
  have hv := hsp.1
  have hl : vs.length = ps.length := by rw [hv, hn]
  subst hv
  have KX : K.In s.heap := e0.mod.kin.keeps fun b o e => (e0.bs b o e).1
  have hb' := hb s us KX (by rw [List.append_nil, ← r.length, hl])
  rw [List.append_nil] at hb'
  obtain ⟨G, mk, hq⟩ := start_run (N := N) (by rw [hl]; exact hpl) hsp
  exact run_ofS lk hcd S hr e0 hb' r hl fun hr' => ⟨_, hbody cdv A outer s H G E fl good gm rr mk L hr', hq⟩
end
section
variable {X : Cx} {B : Bs} {K : PySem.W.Frag} {T T' : Tab} {G G' H H' : Hp} {σ σ' : L2.St} {ρ ρ' : Ve} {Q : VK} {v : V} {e : Expr} {es : List Expr}
/-- such a def called with the lambda that was handed on -/
theorem pe_fCallL [xk : XOk X B] {T0 : Tab} {k kl : Nat} {f fa : Addr} {good : Hp → Prop} {gm} {r : FR} {m : FR → FM} {n : Nat} {os : List Opd} {x : Str} {p pos : Pos} (hT : B.T = T0.lam f good gm) (L : LamAt X.prog X.w X.K X.mg X.base T0 kl f good r X.outer X.s_0.heap X.H_0) (hex : X.ex = []) (hst : X.stack = X.env :: X.outer) (hfl : X.env.frame = some X.env.locals)
    (F : FnLR X.prog X.w X.K X.mg X.base (L2N.CX X.prog X.w) k fa (spLm X.prog X.w X.K X.mg X.base T0 kl n m)) (hr : Room k X.A) (hg : Gl X x) (hm : X.mg x = some (.ref fa)) (hk : PySem.W.keepIn X.K (.ref fa) = true)
    (ha : PA X (e :: es) (tOs X.K B os)) (hn : os.length = n := by rfl) (hdb : (x == ("__debug__" : Str)) = false := by decide) (he : starEach (e :: es) X.env = (false, eval e X.env) :: starEach es X.env := by rfl) (hpl : (backTo pos (starEach es X.env)).any (·.1) = false := by rfl) :
    PE X (.Call (.Name x p) (e :: es) [] pos) (tF X.K B (fCall (m r) os)) :=
  xk.ok.elim fun W hW => ⟨fun pins s σ H Q I ⟨G, ρ, S, q⟩ => by
    refine wpAny_Call_Name_kw (ld_glob I hg hm ?_ hdb)
    have h := call_read (n := n) (fun G H ρ => hW.2 G H σ ρ) S q hn
    refine PySem.W.callWith_K (h₀ := X.base) I.ok.mod.kin hk (thn (ha.run pos pins _ σ H _ (I.tok _) h) fun us s1 ⟨vs, H1, I1, rv, q1⟩ => ⟨I1.kIn, ?_⟩) he hpl
    have un : Un (frs X.outer) [] X.H_0 H1 X.s_0.heap s1.heap := by have := I1.base; rw [hex] at this; exact this
    have L1 := L.step (env := X.env) un fun y hy => by
      rw [hfl] at hy; cases hy
      exact Heap.get?_none_of_le I1.ok.above
    refine wpAny_call (codeAny_mono (F X.A X.stack s1 H1 us vs Q (WE W σ) hr I1.env0 rv ⟨f, good, gm, r, by rw [hst]; exact L1, by rw [← hT]; exact q1⟩) fun rr s' hq => ?_)
    cases rr with
    | error e => exact L2N.passAt hW.1 σ pins H1 s1 e s' I1 hq
    | ok fl =>
      cases fl with
      | ret u => exact I1.after hq
      | next => exact False.elim hq
      | brk => exact False.elim hq
      | cont => exact False.elim hq⟩
/-! plain data in, plain data out -/
def pM (m : FM) : FM := fun ds => if plainL ds = true then (match m ds with
  | .ok fl d o => if plainD d = true then .ok fl d o else .no
  | .ex (.ins c fs) o => if plainL fs = true then .ex (.ins c fs) o else .no
  | .ex _ _ => .no
  | .no => .no) else .no
theorem spF_cv {n : Nat} {m : FM} {vs : List V} {E : XK} (hC : T.C = T'.C) (hL : T.L = T'.L) (ht : T'.tb = T.tb) (h : spF K T n (pM m) vs H Q E) : spF K T' n m vs H Q E := by
  obtain ⟨hv, G, ds, x, mk, r, q⟩ := h
  unfold pM at q
  by_cases hp : plainL ds = true
  · rw [if_pos hp] at q
    refine ⟨hv, G, ds, x, by unfold MkT; rw [ht]; exact mk, RepL.cv hC hL (fun _ _ _ h => h) hp r, ?_⟩
    cases hm : m ds with
    | ok fl d o =>
      rw [hm] at q
      dsimp only at q ⊢
      by_cases hpd : plainD d = true
      · rw [if_pos hpd] at q
        exact fun G' H' v nw => q G' H' v (nw.cv hC.symm hL.symm hpd)
      · rw [if_neg hpd] at q; exact q.elim
    | ex y o =>
      rw [hm] at q
      cases y with
      | ins c fs =>
        dsimp only at q ⊢
        by_cases hpd : plainL fs = true
        · rw [if_pos hpd] at q
          exact fun G' H' cls dd gr er => q G' H' cls dd gr (er.cv hC.symm hL.symm hpd)
        · rw [if_neg hpd] at q; exact q.elim
      | _ => exact q.elim
    | no => rw [hm] at q; exact q.elim
  · rw [if_neg hp] at q; exact q.elim
theorem FnR.cv {P : Program} {w : World} {mg : Str → Option Value} {base : Heap} {CX : CXT} {k n : Nat} {f : Addr} {m : FM} (hC : T.C = T'.C) (hL : T.L = T'.L) (ht : T'.tb = T.tb) (F : FnR P w K mg base CX k f (spF K T' n m)) : FnR P w K mg base CX k f (spF K T n (pM m)) :=
  fun A outer s H us vs Q E hr e0 r h => F A outer s H us vs Q E hr e0 r (spF_cv hC hL ht h)
end
end Pf
/-! part Ph9 -/
set_option Elab.async false
set_option linter.all false
set_option maxRecDepth 100000
set_option maxHeartbeats 2000000
/-! Ph9: x(lambda: e, ..): the lambda is made and handed on. -/
namespace Pf
open PySem PySem.Spec PyProof.Rows L2 LamX
/-- the captured names are frozen -/
def frzV : List Nat → Ve → Option Ve
  | [], ρ => some ρ
  | i :: l, ρ => match ρ[i]? with
    | some (some (.fz, _)) => frzV l ρ
    | some (some (.ow, d)) => frzV l (ρ.set i (some (.fz, d)))
    | _ => none
def maskV (caps : List Nat) (ρ : Ve) : Ve := (List.range ρ.length).map fun j => if caps.contains j then (match ρ[j]? with
  | some (some (.fz, d)) => some (.fz, d)
  | _ => none) else none
def finE : ER → FR
  | .ok fl d _ => .ok fl d .non
  | .ex x _ => .ex x .non
  | .no => .no
section
variable {X : Cx} {B : Bs} {K : PySem.W.Frag} {T T' : Tab} {G G' H H' : Hp} {σ σ' : L2.St} {ρ ρ' : Ve} {Q : VK} {v : V} {e : Expr} {es : List Expr}
theorem frz_ok : ∀ {l : List Nat} {G : Hp} {ρ ρ' : Ve}, Sim K B G H σ ρ → frzV l ρ = some ρ' → ∃ G', Ex G G' ∧ Sim K B G' H σ ρ'
  | [], G, ρ, ρ', S, h => by cases h; exact ⟨G, Ex.refl _, S⟩
  | i :: l, G, ρ, ρ', S, h => by
    dsimp only [frzV] at h
    split at h
    · exact frz_ok S h
    · rename_i d hd
      obtain ⟨G1, v, e1, _, S1, _⟩ := S.freeze hd
      obtain ⟨G2, e2, S2⟩ := frz_ok S1 h
      exact ⟨G2, e1.trans e2, S2⟩
    · cases h
theorem mask_len {caps : List Nat} : (maskV caps ρ).length = ρ.length := by unfold maskV; rw [List.length_map, List.length_range]
theorem mask_at {caps : List Nat} {j : Nat} {fl : Fl} {d : D} (h : (maskV caps ρ)[j]? = some (some (fl, d))) : fl = .fz ∧ ρ[j]? = some (some (.fz, d)) := by
  unfold maskV at h
  rw [List.getElem?_map] at h
  obtain ⟨k, hk, h2⟩ := Option.map_eq_some_iff.mp h
  have ek : k = j := by
    have hlt := (List.getElem?_eq_some_iff.mp hk).1
    rw [List.length_range] at hlt
    rw [List.getElem?_range hlt] at hk
    exact (Option.some.inj hk).symm
  subst ek
  clear h
  split at h2
  · split at h2
    · rename_i d' hd
      cases h2
      exact ⟨rfl, hd⟩
    · cases h2
  · cases h2
/-- what is kept for the lambda: its code object, the captured data -/
def lamGood (K : PySem.W.Frag) (T : Tab) (σ : L2.St) (ρL : Ve) (c' : Addr) (q : Str) : Hp → Prop := fun G => G c' = some (CodeO c' q) ∧ ∀ (j : Nat) (d : D), ρL[j]? = some (some (Fl.fz, d)) → ∃ v, σ[j]? = some (some v) ∧ Rep K T G d v
theorem lamGood.mono {ρL : Ve} {c' : Addr} {q : Str} : ∀ G G' : Hp, (∀ a o, G a = some o → G' a = some o) → lamGood K T σ ρL c' q G → lamGood K T σ ρL c' q G' := fun G G' e ⟨h1, h2⟩ => ⟨e _ _ h1, fun j d hj => by
  obtain ⟨v, hv, r⟩ := h2 j d hj
  exact ⟨v, hv, r.mono e⟩⟩
/-- the context of the lambda's body -/
abbrev lamCxN (X : Cx) (A : Around) (outer : List Env) (s : Shared) (H : Hp) (E : XK) (scope : Scope) (f c' : Addr) : Cx :=
  (lamCx X A outer s H E scope f c').tr [] fun e s' => wpAny (model X.prog X.w) (A.deeper (lamEnv X scope s.heap.objs.size f c')) (leaving (lamEnv X scope s.heap.objs.size f c') e) (fun _ s'' => L2N.CX X.prog X.w outer H s E e s'') (fun e' s'' => L2N.CX X.prog X.w outer H s E e' s'') s'
instance xok_L {A : Around} {outer : List Env} {s : Shared} {E : XK} {scope : Scope} {f c' : Addr} {mk : MkT T G} : XOk (lamCxN X A outer s H E scope f c') (b0 X.K T G H E mk) :=
  ⟨⟨_, L2N.takes_of rfl rfl rfl rfl, fun G' H' σ ρ x cls d S h er => h G' H' cls d ⟨S.g0, S.ex, S.new, fun a o h n => S.fr a o h n (fun z => z), S.al⟩ er⟩⟩
theorem lam_at {pins : List (Addr × Obj)} {s : Shared} {f c' : Addr} {pm ctv : Value} {params : Arguments} {body : Expr} {scope : Scope} {k : Nat} {fb : EF} {ρL : Ve} (I : Inv X pins σ H s) (L : LamS X.env.scope scope)
    (hf : s.heap.get? f = some (PySem.W.kla_obj "<lambda>" (X.env.qual ++ "<lambda>") params body scope (cloFrom X.env.cells scope.names []) pm c' ctv)) (hfn : H f = none) (hfr : f ∉ frs X.stack)
    (hbind : bindArgs (PySem.W.kla_fn "<lambda>" (X.env.qual ++ "<lambda>") params body scope (cloFrom X.env.cells scope.names []) pm (.ref c') ctv) ⟨[], []⟩ = pure [])
    (hlen : σ.length = ρL.length) (hfz : ∀ (j : Nat) (fl : Fl) (d : D), ρL[j]? = some (some (fl, d)) → fl = Fl.fz)
    (hbody : ∀ (A : Around) (outer : List Env) (s : Shared) (H G : Hp) (E : XK) (mk : MkT T G), Room k (A.deeper (lamEnv X scope s.heap.objs.size f c')) → PE (lamCxN X A outer s H E scope f c') body (tF X.K (b0 X.K T G H E mk) fb)) :
    LamAt X.prog X.w X.K X.mg X.base T (k + 1) f (lamGood X.K T σ ρL c' (X.env.qual ++ "<lambda>")) (finE (fb ρL)) X.stack s.heap H := by
  refine ⟨⟨_, _, _, _, hf⟩, hfn, hfr, fun A outer' s2 H2 Q E un hr e0 ⟨G, x, mk, ⟨gc, gr⟩, q⟩ => ?_⟩
  have of1 := un.keep f _ hf hfn hfr (by simp)
  have hc : H2 c' = some (CodeO c' (X.env.qual ++ "<lambda>")) := x.at gc rfl
  obtain ⟨⟨oc, vs, t, hoc, hdc, hvc⟩, _, _⟩ := e0.hok c' _ hc
  refine PySem.W.kla_callFunE hr.depth of1 rfl L.co L.gen rfl ⟨c', oc, vs, t, rfl, hoc, hdc, hvc⟩ ?_
  rw [hbind]
  have lim : s2.heap.NoLimit := e0.mod.nolimit.keeps fun b o e => (e0.bs b o e).1
  refine wpAny_pure (wpAny_newFunctionEnv (fun y hy => (L.own y hy).2) (fun y hy => absurd hy (by simp)) (fun h₁ hns hsb => ⟨lim.fresh _ hsb, ?_⟩) L.kind)
  show codeAny _ _ (.expr body (lamEnv X scope s2.heap.objs.size f c')) _ _
  have kp : ∀ b o, s2.heap.get? b = some o → h₁.get? b = some o := fun b o e => hsb.extBut b o (Nat.ne_of_lt (Heap.lt_size e)) (Heap.get?_push_of_some _ e)
  have J : Inv (lamCx X A outer' s2 H2 E scope f c') [] σ H2 { s2 with heap := h₁, toks := s2.toks + ([] : List (Str × Value)).length } := lam_start2 I L e0 hr.hd un hns kp
  have simL : Sim X.K (b0 X.K T G H2 E mk) G H2 σ ρL := {
    ex := x
    new := fun a o h => .inl h
    g0 := Ex.refl _
    fr := fun a o h _ _ => h
    al := fun a h => h
    len := hlen
    sl := fun j fl d hj => by
      have := hfz j fl d hj; subst this
      obtain ⟨v, hv, r⟩ := gr j d hj
      exact ⟨v, hv, r⟩
    dis := fun i j p f1 d1 f2 d2 h1 h2 n1 => absurd (hfz i f1 d1 h1) n1 }
  have grow : ∀ {G' H' ρ'}, Ex G G' → Sim X.K (b0 X.K T G H2 E mk) G' H' σ ρ' → Grow G H2 G' H' := fun e S => ⟨e, S.ex, S.new, fun a o h n => S.fr a o h n (fun z => z), S.al⟩
  have post : PostE X.K (b0 X.K T G H2 E mk) G σ Q (fb ρL) := by
    cases hfb : fb ρL with
    | ok fl d ρ1 =>
      rw [hfb] at q
      intro G' H' v e S k
      refine q G' H' v ⟨grow e S, ?_⟩
      cases fl with
      | false => exact k
      | true => obtain ⟨p, ev, ho, hg, h0, _⟩ := k; exact ⟨p, ev, h0, hg, ho⟩
    | ex y ρ1 => rw [hfb] at q; exact q
    | no => rw [hfb] at q; exact q.elim
  refine PySem.W.kla_codeExpr (wpAny_mono ((hbody A outer' s2 H2 G E mk (hr.deeper _)).run [] _ σ H2 Q (J.toTry _) ⟨G, ρL, simL, post⟩) (fun v s' hq => ?_) fun e s' hq => hq)
  obtain ⟨w', H', J', rv, q⟩ := hq
  exact ⟨w', H', J'.os, J'.bare, J'.base, J'.hok, rv, q⟩
/-- x(lambda: e, ..): caps, the slots that the lambda captures; fb, its body -/
def fGive (caps : List Nat) (fb : EF) (m : FR → FM) (os : List Opd) : EF := fun ρ0 => match frzV caps ρ0 with
  | none => .no
  | some ρ => match evOs os ρ with
    | .ok hs ρ1 => match vals hs with
      | some ds => if plainL ds = true then (match m (finE (fb (maskV caps ρ))) (.lam :: ds) with
        | .ok fl d _ => if plainD d = true then .ok fl d ρ1 else .no
        | .ex (.ins c fs) _ => if plainL fs = true then .ex (.ins c fs) ρ1 else .no
        | .ex _ _ => .no
        | .no => .no) else .no
      | none => .no
    | .ex x ρ1 => .ex x ρ1
    | .no => .no
theorem pe_give [xk : XOk X B] {params : Arguments} {lbody : Expr} {scope : Scope} {caps : List Nat} {fb : EF} {m : FR → FM} {os : List Opd} {n k k2 : Nat} {fa c P : Addr} {x : Str} {p lpos pos : Pos} (TB : TabB X.base X.mg c P) (hcode : X.env.code = .ref c) (hPT : (P, X.env.qual ++ "<lambda>") ∈ B.T.tb) (L : LamS X.env.scope scope) (hdef : defaultsOf params X.env = ([], []))
    (hbind : ∀ (q : Str) (cl : List (Str × Addr)) (pm cv ctv : Value), bindArgs (PySem.W.kla_fn "<lambda>" q params lbody scope cl pm cv ctv) ⟨[], []⟩ = pure [])
    (hbody : ∀ (f c' : Addr) (A : Around) (outer : List Env) (s : Shared) (H G : Hp) (E : XK) (mk : MkT B.T G), Room k (A.deeper (lamEnv X scope s.heap.objs.size f c')) → PE (lamCxN X A outer s H E scope f c') lbody (tF X.K (b0 X.K B.T G H E mk) fb))
    (F : FnLR X.prog X.w X.K X.mg X.base (L2N.CX X.prog X.w) k2 fa (spLm X.prog X.w X.K X.mg X.base B.T (k + 1) n m)) (hr : Room k2 X.A) (hg : Gl X x) (hm : X.mg x = some (.ref fa)) (hk : PySem.W.keepIn X.K (.ref fa) = true)
    (has : PA X es (tOs X.K B os)) (hn : os.length + 1 = n := by rfl) (hdb : (x == ("__debug__" : Str)) = false := by decide)
    (he : starEach (.Lambda params lbody scope lpos :: es) X.env = (false, eval (.Lambda params lbody scope lpos) X.env) :: starEach es X.env := by rfl) (hpl : (backTo pos (starEach es X.env)).any (·.1) = false := by rfl) :
    PE X (.Call (.Name x p) (.Lambda params lbody scope lpos :: es) [] pos) (tF X.K B (fGive caps fb m os)) :=
  xk.ok.elim fun W hW => ⟨fun pins s σ H Q I ⟨G0, ρ0, S0, q⟩ => by
    dsimp only [fGive] at q
    cases hfz : frzV caps ρ0 with
    | none => rw [hfz] at q; exact q.elim
    | some ρ =>
      rw [hfz] at q
      dsimp only at q
      obtain ⟨G, e0, S⟩ := frz_ok S0 hfz
      refine wpAny_Call_Name_kw (ld_glob I hg hm ?_ hdb)
      refine PySem.W.callWith_K (h₀ := X.base) I.ok.mod.kin hk ?_ he hpl
      show wpAny _ _ (spliced ((false, eval (.Lambda params lbody scope lpos) X.env) :: backTo pos (starEach es X.env))) _ _ _
      refine Calls.spliced_cons (lam_make3 (I.tok _) TB hcode (S.ex.tb (S.tbs _ hPT)) hdef (L.has I.ok) fun f c' pm ctv H1 s' I1 st hf hfn hloc hfr hco => ?_)
      obtain ⟨G1, gr, g1c⟩ := st.grow S.ex (S.tbs _ hPT) hco
      have S1 := S.grow gr
      have hfs : f ∉ X.fs := fun hm => hfr (by
        obtain ⟨e, he, q⟩ := List.mem_filterMap.mp hm
        rcases I1.ok.stk with h | h
        · rw [h]; exact List.mem_filterMap.mpr ⟨e, he, q⟩
        · rw [h.1]; exact List.mem_filterMap.mpr ⟨e, List.mem_cons_of_mem _ he, q⟩)
      have IP : Inv X (pins ++ [(f, PySem.W.kla_obj "<lambda>" (X.env.qual ++ "<lambda>") params lbody scope (cloFrom X.env.cells scope.names []) pm c' ctv)]) σ H1 s' := I1.pins_of fun p hp => (List.mem_append.mp hp).elim (fun z => I1.pin p (List.mem_append_right _ z)) fun z => by
        have e : p = _ := List.mem_singleton.mp z
        subst e
        exact ⟨hf, hfn, hloc, hfs, fun v z => by cases z⟩
      have args : tOs X.K B os σ H1 fun vs H2 => ∃ G2 ρ1 ds, Ex G1 G2 ∧ Sim X.K B G2 H2 σ ρ1 ∧ RepL X.K B.T G2 ds vs ∧ vs.length + 1 = n ∧ plainL ds = true ∧ PostE X.K B G0 σ Q (match m (finE (fb (maskV caps ρ))) (.lam :: ds) with
        | .ok fl d _ => if plainD d = true then .ok fl d ρ1 else .no
        | .ex (.ins c fs) _ => if plainL fs = true then .ex (.ins c fs) ρ1 else .no
        | .ex _ _ => .no
        | .no => .no) := by
        refine tOs_run S1 ?_
        cases h1 : evOs os ρ with
        | ok hs ρ1 =>
          rw [h1] at q
          intro G2 H2 vs e2 S2 k2
          dsimp only at q
          cases h2 : vals hs with
          | none => rw [h2] at q; exact q.elim
          | some ds =>
            rw [h2] at q
            dsimp only at q
            by_cases hp : plainL ds = true
            · rw [if_pos hp] at q
              exact ⟨G2, ρ1, ds, e2, S2, vals_ok k2 h2, by rw [k2.len, evOs_len h1]; exact hn, hp, q⟩
            · rw [if_neg hp] at q; exact q.elim
        | ex y ρ1 => rw [h1] at q; exact q
        | no => rw [h1] at q; exact q.elim
      refine thn (has.run pos _ s' σ H1 _ IP args) fun us s2 ⟨vs, H2, I2, rv, G2, ρ1, ds, e2, S2, rd, hl, hpl2, qq⟩ => ⟨I2.kIn, ?_⟩
      have I2' := I2.unpinned
      have fp := I2.pin (f, PySem.W.kla_obj "<lambda>" (X.env.qual ++ "<lambda>") params lbody scope (cloFrom X.env.cells scope.names []) pm c' ctv) (List.mem_append_right _ (List.mem_append_right _ (by simp)))
      have LA := lam_at (T := B.T) (fb := fb) (ρL := maskV caps ρ) I2' L fp.1 fp.2.1 hfr (hbind _ _ _ _ _) (by rw [mask_len, ← S.len]) (fun j fl d hj => (mask_at hj).1) (fun A outer s H G E mk hr' => hbody f c' A outer s H G E mk hr')
      have gd : lamGood X.K B.T σ (maskV caps ρ) c' (X.env.qual ++ "<lambda>") G2 := by
        refine ⟨e2 _ _ g1c, fun j d hj => ?_⟩
        obtain ⟨v, hv, sk⟩ := S.sl j _ _ (mask_at hj).2
        exact ⟨v, hv, Rep.mono (gr.e.trans e2) sk⟩
      have e02 : Ex G0 G2 := e0.trans (gr.e.trans e2)
      have sp : spF X.K (B.T.lam f (lamGood X.K B.T σ (maskV caps ρ) c' (X.env.qual ++ "<lambda>")) lamGood.mono) n (m (finE (fb (maskV caps ρ)))) (.ref f :: vs) H2 Q (WE W σ) := by
        refine ⟨by rw [List.length_cons]; exact hl, G2, .lam :: ds, S2.ex, S2.tbs, ⟨.ref f, vs, rfl, ⟨f, rfl, rfl, gd⟩, RepL.cv (T := B.T) (T' := (B.T.lam f (lamGood X.K B.T σ (maskV caps ρ) c' (X.env.qual ++ "<lambda>")) lamGood.mono)) rfl rfl (fun _ _ _ h => h) hpl2 rd⟩, ?_⟩
        cases hm : m (finE (fb (maskV caps ρ))) (.lam :: ds) with
        | ok fl d o =>
          rw [hm] at qq
          dsimp only at qq ⊢
          by_cases hp : plainD d = true
          · rw [if_pos hp] at qq
            intro G' H' v nw
            have nw' : NewOk X.K B.T G2 H2 G' H' fl v d := NewOk.cv (T := (B.T.lam f (lamGood X.K B.T σ (maskV caps ρ) c' (X.env.qual ++ "<lambda>")) lamGood.mono)) (T' := B.T) rfl rfl hp nw
            exact qq G' H' v (e02.trans nw'.1.e) (S2.grow nw'.1) (nw'.val S2)
          · rw [if_neg hp] at qq; exact qq.elim
        | ex y o =>
          rw [hm] at qq
          cases y with
          | ins c0 fs =>
            dsimp only at qq ⊢
            by_cases hp : plainL fs = true
            · rw [if_pos hp] at qq
              exact fun G' H' cls dd gr' er => hW.2 G' H' σ ρ1 _ cls dd (S2.grow gr') qq (ExRep.cv (T := (B.T.lam f (lamGood X.K B.T σ (maskV caps ρ) c' (X.env.qual ++ "<lambda>")) lamGood.mono)) (T' := B.T) rfl rfl hp er)
            · rw [if_neg hp] at qq; exact qq.elim
          | _ => exact qq.elim
        | no => rw [hm] at qq; exact qq.elim
      refine wpAny_call (codeAny_mono (F X.A X.stack s2 H2 (.ref f :: us) (.ref f :: vs) Q (WE W σ) hr I2.env0 (.cons rfl rv) ⟨f, _, lamGood.mono, _, LA, sp⟩) fun rr s3 hq => ?_)
      cases rr with
      | error e => exact L2N.passAt hW.1 σ pins H2 s2 e s3 I2' hq
      | ok fl =>
        cases fl with
        | ret u => exact I2'.after hq
        | next => exact False.elim hq
        | brk => exact False.elim hq
        | cont => exact False.elim hq⟩
end
end Pf
/-! part Pg0 -/
set_option Elab.async false
set_option linter.all false
set_option maxRecDepth 100000
set_option maxHeartbeats 2000000
/-! Pg0: for k, v in d.items(), d a dict with tuples as keys. -/
namespace Pf
open PySem PySem.Spec PyProof.Rows L2
/-- the pairs of a dict whose keys are tuples, each a new tuple -/
def Itit (d : Addr) (o : Obj) (kvs : List (List Key × V)) : It :=
  ⟨fun i H => H d = some (.frz o (.dT kvs)) ∧ i < kvs.length, fun i H x H' => ∃ (p : Addr) (k : List Key) (v : V) (q : Addr), kvs[i]? = some (k, v) ∧ x = .ref p ∧ H q = some (.tup (k.map kV)) ∧ H p = none ∧ H' = upd H p (.tup [.ref q, v]), fun i H => H d = some (.frz o (.dT kvs)) ∧ kvs.length ≤ i⟩
section
variable {X : Cx} {pins : List (Addr × Obj)} {σ : L2.St} {H : Hp} {s : Shared} {d : Addr} {o : Obj}
theorem frzT2 {kvs : List (List Key × V)} (I : Inv X pins σ H s) (h : H d = some (.frz o (.dT kvs))) :
    (d == sysModules) = false ∧ s.heap.get? d = some o ∧ o.ExactDict ∧ ∃ (es : Array DictEntry) (ep : Nat), o.data = .dict es ep ∧ es.size = kvs.length ∧
      ∀ (i : Nat) (k : List Key) (v : V), kvs[i]? = some (k, v) → ∃ (en : DictEntry) (q : Addr), es[i]? = some en ∧ en.key = .ref q ∧ H q = some (.tup (k.map kV)) ∧ RelV v en.val := by
  obtain ⟨hd, z, hs, xs, pr, o', es, ep, ho, hx, hdt, he, _⟩ := I.hok d _ h
  rw [hd] at ho
  cases ho
  refine ⟨hs, hd, hx, es, ep, hdt, ?_, fun i k v e => ?_⟩
  · have l1 : es.size = xs.length := size_of_entries he
    have l2 : kvs.length = xs.length := Paired.length pr
    omega
  · obtain ⟨b, hb, e1, e2, e3⟩ := paired_get pr e
    have q := entry_at he i
    rw [hb] at q
    exact ⟨_, b.2.1, q, rfl, e2, e3⟩
end
section
variable {P : Program} {w : World} {K : PySem.W.Frag} {d : Addr} {o : Obj} {es : Array DictEntry} {ep : Nat}
theorem turn_itemsT {kvs : List (List Key × V)} {elts : List Expr} {kk : Nat} {tpos : Pos} (it : Addr) (hod : o.data = .dict es ep) :
    Turn P w K (.Tuple elts kk tpos) (Itit d o kvs) [it] it (fun i h => ∃ ok ov, h.get? it = some (DVw.itmOb d .none i kvs.length ep ok ov)) where
  mem := by simp
  obj := fun i h st b hb => by
    have e : b = it := by simpa using hb
    subst e
    obtain ⟨ok, ov, e⟩ := st
    exact ⟨_, e, fun v z => nomatch z⟩
  keep := fun i h h' st k => let ⟨ok, ov, e⟩ := st; ⟨ok, ov, k it (by simp) _ e⟩
  item := by
    intro X hP hw hK hc i pins s σ H E I hf st hg
    subst hP hw hK
    obtain ⟨hd, hi⟩ := hg
    obtain ⟨hs, hgd, hx, es', ep', hdt, hsz, ent⟩ := frzT2 I hd
    obtain ⟨rfl, rfl⟩ := dict_ep hod hdt
    obtain ⟨⟨k, v⟩, hkv⟩ : ∃ p, kvs[i]? = some p := ⟨kvs[i], List.getElem?_eq_getElem hi⟩
    obtain ⟨e, q, he, hkey, hq, ru⟩ := ent i k v hkv
    obtain ⟨ok, ov, hit⟩ := st
    have hlt : it < s.heap.objs.size := Heap.lt_size hit
    refine DVw.itm_item hit hgd hod hsz he fun h' b1 b2 b3 b4 => ?_
    refine ⟨_, rfl, wpAny_letOwnedTupleGo_items (s := { s with heap := h' }) (d := d) (i := i + 1) (n := kvs.length) (ep := ep') (ok := e.key) (ov := e.val) b1 fun h'' he' sb => ?_⟩
    have hT2 : h''.get? s.heap.objs.size = some { cls := .type "tuple", data := .seq #[e.key, e.val] } := (sb.2 _ (Nat.ne_of_gt hlt)).trans b2
    have new : ObjOk X.prog X.w (upd H s.heap.objs.size (.tup [.ref q, v])) h'' s.heap.objs.size (.tup [.ref q, v]) :=
      ⟨by show 2 ≤ sizeLine; decide, [e.key, e.val], .cons (show RelV (.ref q) e.key by rw [hkey]; rfl) (.cons ru .nil), ⟨_, hT2, rfl, _, rfl⟩⟩
    have I1 : Inv X pins σ (upd H s.heap.objs.size (.tup [.ref q, v])) { s with heap := h'' } :=
      I.turnedNew (t' := s.toks) (ch := [it]) (fun b ob hb z => (sb.2 b (by simpa using hb)).trans (b4 b ob (by simpa using hb) z)) hf (Nat.le_refl _) new
    refine ⟨.ref s.heap.objs.size, _, I1, rfl, ⟨_, k, v, q, hkv, rfl, hq, I.hok.fresh (Nat.le_refl _), rfl⟩, ⟨e.key, e.val, he'⟩, fun b hb => ?_⟩
    have z : b = it := by simpa using hb
    rw [z, upd_ne (Nat.ne_of_lt hlt)]
    exact (hf it (by simp)).1
  done := by
    intro X hP hw hK hc i pins s σ H E I hf st hg
    subst hP hw hK
    obtain ⟨hd, hi⟩ := hg
    obtain ⟨f0, f1, f2, f3, f4, f5⟩ := hf it (by simp)
    obtain ⟨hs, hgd, hx, es', ep', hdt, hsz, ent⟩ := frzT2 I hd
    obtain ⟨rfl, rfl⟩ := dict_ep hod hdt
    obtain ⟨ok, ov, hit⟩ := st
    have he : es'[i]? = none := Array.getElem?_eq_none (by rw [hsz]; exact hi)
    exact DVw.itm_end (I.ok.hd hc) hit hgd hod hsz he fun h' eb => ⟨rfl, I.turned (t' := s.toks) (fun b ob hb e => eb b ob hb e) f0 f1 f3 f4 f5⟩
  self := fun A i s Q E st h => let ⟨_, _, e⟩ := st; PySem.W.kcp_self e h
end
/-- a dict that is locked: its pairs -/
def iItT (td : TE) : TI := fun σ H R => td σ H fun x H1 => ∃ d o, x = .ref d ∧ ((∃ kvs, H1 d = some (.frz o (.dK kvs)) ∧ R (Iti d o kvs) H1) ∨ ∃ kvs, H1 d = some (.frz o (.dT kvs)) ∧ R (Itit d o kvs) H1)
section
variable {X : Cx} {tg e : Expr} {td : TE} {apos cpos : Pos}
theorem pi_itT {elts : List Expr} {kk : Nat} {tpos : Pos} (he : PE X e td) (hbase : attributeBase e "items" X.env (eval e X.env) = eval e X.env := by rfl) (hline : (apos.endLine == cpos.line) = true := by rfl) :
    PI X (.Tuple elts kk tpos) (.Call (.Attribute e "items" apos) [] [] cpos) (iItT td) := by
  refine ⟨fun pins s σ H R I h => ?_⟩
  refine wpAny_Call_method (T := "dict") (id := "dict.items") hbase rfl hline F.plainAttrs_dict F.slot_dict_items F.type_dict_items (thn (he.run pins s σ H _ I h) fun u s1 ⟨x, H1, I1, rx, d, o, ex, q⟩ => ?_)
  subst ex
  obtain rfl : u = Value.ref d := rx
  rcases q with ⟨kvs, hd, q⟩ | ⟨kvs, hd, q⟩
  · obtain ⟨hs, hgd, hx, es, ep, vs, hdt, hsz, kv, hm⟩ := I1.frzK hd
    have hl : kvs.length = vs.length := Paired.length kv
    refine ⟨hm.dictOf.typeIs, hm.dictOf.mapOf.noDict, ?_⟩
    have I2 : Inv X pins σ H1 { s1 with heap := s1.heap.push { cls := .type "dict_items", data := .fields #[.ref d] } } := I1.kept (t' := s1.toks) fun b ob q => Heap.get?_push_of_some _ q
    have fin : wpAny (model X.prog X.w) X.A (pyIter (.ref s1.heap.objs.size)) (PIE X pins σ (.Tuple elts kk tpos) R) X.xe { s1 with heap := s1.heap.push { cls := .type "dict_items", data := .fields #[.ref d] } } := by
      refine wpAny_pyIter_items (d := d) (knd := mixKind X.prog X.w) ⟨_, Heap.get?_push_size _ rfl, rfl, rfl⟩ (hm.push _) (pi_one (tk := s1.toks) I2 _ (turn_items _ hdt) ⟨.none, .none, ?_⟩ q)
      rw [hl]
      exact Heap.get?_push_size _ rfl
    show wpAny _ _ (callWith cpos (.builtin "dict.items") [.ref d] [] []) _ X.xe s1
    exact method_meetsIn F.slot_dict_items F.entry_dict_items rfl (PySem.evalArgs_none ⟨rfl, hm.dictOf.typeIs, F.args_dict_items_1 _, _, meets_dict_items (mixKind X.prog X.w) d hs, ⟨vs, hm.dictOf⟩, fin⟩)
  · obtain ⟨hs, hgd, hx, es, ep, hdt, hsz, ent⟩ := frzT2 I1 hd
    refine ⟨⟨o, hgd, hx.1⟩, fun a ea => ?_, ?_⟩
    · cases ea; exact ⟨o, hgd, hx.2.1⟩
    have I2 : Inv X pins σ H1 { s1 with heap := s1.heap.push (DSub.viewOb "dict_items" d) } := I1.kept (t' := s1.toks) fun b ob q => Heap.get?_push_of_some _ q
    refine callWith_method0 (first := [.ref d]) (DT.callItems hs ⟨o, hgd, hx, hdt⟩ ?_)
    refine DSub.iter_itms (Heap.get?_push_size _ rfl) (Heap.get?_push_of_some _ hgd) hdt ?_
    refine pi_one (tk := s1.toks) I2 _ (turn_itemsT _ hdt) ⟨.none, .none, ?_⟩ q
    rw [← hsz]
    exact Heap.get?_push_size _ rfl
end
end Pf
/-! part Pg1 -/
set_option Elab.async false
set_option linter.all false
set_option maxRecDepth 100000
set_option maxHeartbeats 2000000
/-! Pg1: the loop over a dict's pairs, by plain functions. -/
namespace Pf
open PySem PySem.Spec PyProof.Rows L2
def pairsD : D → Option (List D)
  | .dK kvs => some (kvs.map fun kv => .tup [keyD kv.1, kv.2])
  | .dT kvs => some (kvs.map fun kv => .tup [.tup (kv.1.map keyD), kv.2])
  | _ => none
/-- for t in d.items(), d the slot i -/
def sForI (t : Tg) (i : Nat) (body : SF) : SF := fun ρ => match ρ[i]? with
  | some (some (.fz, d)) => match pairsD d with
    | some ds => noX (loopS t body ds ρ)
    | none => .no
  | some (some (.ow, d)) => match pairsD d with
    | some ds => noX (loopS t body ds (ρ.set i (some (.fz, d))))
    | none => .no
  | _ => .no
section
variable {X : Cx} {B : Bs} {K : PySem.W.Frag} {T : Tab} {G G' H H' : Hp} {σ σ' : L2.St} {ρ ρ' : Ve} {Q : VK} {v : V} {e tg iter : Expr} {es : List Expr} {p : Addr} {Dn : Ends}
theorem RepQ.getV : ∀ {kvs : List (List Key × D)} {vs : List (List Key × V)} {i : Nat} {k : List Key} {w : V}, RepQ K T G kvs vs → vs[i]? = some (k, w) → ∃ d, kvs[i]? = some (k, d) ∧ Rep K T G d w
  | [], _, _, _, _, h, e => by cases h; simp at e
  | (k0, d) :: _, _, 0, _, _, ⟨v, r, h1, h2, h3⟩, h => by subst h1; simp at h; obtain ⟨rfl, rfl⟩ := h; exact ⟨d, rfl, h2⟩
  | (_, _) :: _, _, i + 1, _, _, ⟨v, r, h1, h2, h3⟩, h => by
    subst h1
    obtain ⟨u, e1, e2⟩ := RepQ.getV (i := i) h3 (by simpa using h)
    exact ⟨u, by simpa using e1, e2⟩
theorem RepP.getV : ∀ {kvs : List (Key × D)} {vs : List (Key × V)} {i : Nat} {k : Key} {w : V}, RepP K T G kvs vs → vs[i]? = some (k, w) → ∃ d, kvs[i]? = some (k, d) ∧ Rep K T G d w
  | [], _, _, _, _, h, e => by cases h; simp at e
  | (k0, d) :: _, _, 0, _, _, ⟨v, r, h1, h2, h3⟩, h => by subst h1; simp at h; obtain ⟨rfl, rfl⟩ := h; exact ⟨d, rfl, h2⟩
  | (_, _) :: _, _, i + 1, _, _, ⟨v, r, h1, h2, h3⟩, h => by
    subst h1
    obtain ⟨u, e1, e2⟩ := RepP.getV (i := i) h3 (by simpa using h)
    exact ⟨u, by simpa using e1, e2⟩
theorem walkS_IT {h0 g0 : Hp} {M : Addr → Prop} {mm : (∀ a, M a → h0 a ≠ none) ∧ MkT B.T g0} {od : Obj} {kvs : List (List Key × D)} {vs : List (List Key × V)} (rr : RepQ K B.T G kvs vs) (hH : ∀ G' H2 σ' ρ', Sim K (bb' B h0 g0 M mm) G' H2 σ' ρ' → H2 p = some (.frz od (.dT vs))) :
    WalkS K (bb' B h0 g0 M mm) G (Itit p od vs) (kvs.map fun kv => .tup [.tup (kv.1.map keyD), kv.2]) where
  go := fun G1 H1 σ ρ i e S hi => ⟨hH _ _ _ _ S, by rw [List.length_map] at hi; rw [rr.len]; exact hi⟩
  stop := fun G1 H1 σ ρ e S => ⟨hH _ _ _ _ S, by rw [List.length_map, rr.len]; exact Nat.le_refl _⟩
  yld := fun G1 H1 σ ρ i x H2 e S hi y => by
    obtain ⟨t, k, w, q, hv, rfl, hq, ht, rfl⟩ := y
    obtain ⟨d, hd, rd⟩ := rr.getV hv
    have g1 : ∀ u, G1 q = some u → u = .tup (k.map kV) := fun u hu => by
      rcases S.ex q u hu with ⟨_, z⟩ | ⟨_, ob, z⟩ | z
      · rw [hq] at z; exact (Option.some.inj z).symm
      · rw [hq] at z; cases z
      · obtain ⟨ps, z⟩ := z.tbl; rw [hq] at z; cases z
    have ex1 : Ex G1 (upd G1 q (.tup (k.map kV))) := fun a u h => by
      by_cases ha : a = q
      · subst ha; rw [upd_same, g1 u h]
      · rw [upd_ne ha]; exact h
    have gr1 : Grow G1 H1 (upd G1 q (.tup (k.map kV))) H1 := by
      refine ⟨ex1, fun a u h => ?_, fun a u h => ?_, fun a u h _ => h, fun a h => h⟩
      · by_cases ha : a = q
        · subst ha; rw [upd_same] at h; cases h; exact .inl ⟨rfl, hq⟩
        · rw [upd_ne ha] at h; exact S.ex a u h
      · by_cases ha : a = q
        · subst ha; rw [upd_same] at h; cases h; exact .inr (.inr rfl)
        · rw [upd_ne ha] at h; exact .inl h
    have gr2 := Grow.keep (o := .tup [.ref q, w]) gr1.x ht
    have qt : (upd (upd G1 q (.tup (k.map kV))) t (.tup [.ref q, w])) q = some (.tup (k.map kV)) := by
      rw [upd_ne (fun z => by subst z; rw [ht] at hq; cases hq), upd_same]
    refine ⟨_, .tup [.tup (k.map keyD), d], by rw [List.getElem?_map, hd]; rfl, gr1.trans gr2, t, _, rfl, upd_same, _, _, rfl, ⟨q, _, rfl, qt, RepL.map fun z => by cases z <;> rfl⟩, _, _, rfl, Rep.mono (e.trans (gr1.e.trans gr2.e)) rd, rfl⟩
theorem walkS_IK {h0 g0 : Hp} {M : Addr → Prop} {mm : (∀ a, M a → h0 a ≠ none) ∧ MkT B.T g0} {od : Obj} {kvs : List (Key × D)} {vs : List (Key × V)} (rr : RepP K B.T G kvs vs) (hH : ∀ G' H2 σ' ρ', Sim K (bb' B h0 g0 M mm) G' H2 σ' ρ' → H2 p = some (.frz od (.dK vs))) :
    WalkS K (bb' B h0 g0 M mm) G (Iti p od vs) (kvs.map fun kv => .tup [keyD kv.1, kv.2]) where
  go := fun G1 H1 σ ρ i e S hi => ⟨hH _ _ _ _ S, by rw [List.length_map] at hi; rw [rr.len]; exact hi⟩
  stop := fun G1 H1 σ ρ e S => ⟨hH _ _ _ _ S, by rw [List.length_map, rr.len]; exact Nat.le_refl _⟩
  yld := fun G1 H1 σ ρ i x H2 e S hi y => by
    obtain ⟨t, k, w, hv, rfl, ht, rfl⟩ := y
    obtain ⟨d, hd, rd⟩ := rr.getV hv
    have gr := Grow.keep (o := .tup [kV k, w]) S.ex ht
    exact ⟨_, .tup [keyD k, d], by rw [List.getElem?_map, hd]; rfl, gr, t, _, rfl, upd_same, _, _, rfl, by cases k <;> rfl, _, _, rfl, Rep.mono (e.trans gr.e) rd, rfl⟩
/-- a loop over a dict that stays, any of its walks -/
theorem forW_fz {t : Tg} {i : Nat} {body : SF} {d : D} {ds : List D} {iW : TI} (S : Sim K B G H σ ρ) (hi : ρ[i]? = some (some (.fz, d))) (q : PostS K B G Dn (noX (loopS t body ds ρ)))
    (key : ∀ v, σ[i]? = some (some v) → Rep K B.T G d v → ∃ p u, v = .ref p ∧ G p = some u ∧ isDc u = true ∧ ∀ od h0 g0 M mm, (∀ G' H2 σ' ρ', Sim K (bb' B h0 g0 M mm) G' H2 σ' ρ' → H2 p = some (.frz od u)) →
      ∃ J, WalkS K (bb' B h0 g0 M mm) G J ds ∧ ∀ σ' H' R, σ'[i]? = some (some (.ref p)) → H' p = some (.frz od u) → R J H' → iW σ' H' R) :
    tLock (tFor iW (tGb K B t) (tSb K B body)) Dn σ H ∨ tFor iW (tGb K B t) (tSb K B body) Dn σ H := by
  obtain ⟨v, ev, r⟩ := S.sl i _ _ hi
  obtain ⟨p, u, e, hg, hd, wk⟩ := key v ev r
  subst e
  rcases S.ex p u hg with ⟨_, hp⟩ | ⟨_, od, hp⟩ | z
  · refine .inl ⟨p, u, hp, ?_, fun od => ?_⟩
    · cases u <;> first | exact True.intro | exact Bool.noConfusion (show false = true from hd)
    · obtain ⟨h0, g0, M, mm, S1, hH, back⟩ := S.lock (H' := upd H p (.frz od u)) hg hd upd_same (fun a ha => upd_ne ha) ⟨u, hp⟩
      obtain ⟨J, wd, hit⟩ := wk od h0 g0 M mm hH
      have bk : ∀ G' H2 σ' ρ', Sim K (bb' B h0 g0 M mm) G' H2 σ' ρ' → Sim K B G' (upd H2 p u) σ' ρ' ∧ ∀ fl v x, ValOk K (bb' B h0 g0 M mm) G' H2 σ' ρ' fl v x → ValOk K B G' (upd H2 p u) σ' ρ' fl v x :=
        fun G' H2 σ' ρ' S2 => back G' H2 σ' ρ' _ S2 (fun a ha => upd_ne ha) (by rw [upd_same, hp])
      have c := for_core (Dn := ⟨fun σ' H' => H' p = some (.frz od u) ∧ Dn.nx σ' (upd H' p u), fun v H' => H' p = some (.frz od u) ∧ Dn.rt v (upd H' p u), fun σ' H' => H' p = some (.frz od u) ∧ Dn.bk σ' (upd H' p u), fun σ' H' => H' p = some (.frz od u) ∧ Dn.ct σ' (upd H' p u)⟩) wd S1
        (PostS.lock (d := p) (fun H2 => upd H2 p u) bk (fun G' H2 σ' ρ' S2 => ⟨fun z => ⟨hH _ _ _ _ S2, z⟩, fun z => ⟨hH _ _ _ _ S2, z⟩, fun z => ⟨hH _ _ _ _ S2, z⟩, fun v z => ⟨hH _ _ _ _ S2, z⟩⟩) q)
      unfold tFor
      refine hit σ _ _ ev upd_same ?_
      exact c.2.2
  · obtain ⟨h0, g0, M, mm, S1, hH, back⟩ := S.lock (H' := H) hg hd hp (fun a ha => rfl) ⟨_, hp⟩
    obtain ⟨J, wd, hit⟩ := wk od h0 g0 M mm hH
    have bk : ∀ G' H2 σ' ρ', Sim K (bb' B h0 g0 M mm) G' H2 σ' ρ' → Sim K B G' H2 σ' ρ' ∧ ∀ fl v x, ValOk K (bb' B h0 g0 M mm) G' H2 σ' ρ' fl v x → ValOk K B G' H2 σ' ρ' fl v x :=
      fun G' H2 σ' ρ' S2 => back G' H2 σ' ρ' _ S2 (fun a ha => rfl) (by rw [hH _ _ _ _ S2, hp])
    have c := for_core (Dn := Dn) wd S1 (PostS.lock (d := p) (fun H2 => H2) bk (fun G' H2 σ' ρ' S2 => ⟨fun z => z, fun z => z, fun z => z, fun v z => z⟩) q)
    refine .inr ?_
    unfold tFor
    refine hit σ _ _ ev hp ?_
    exact c.2.2
  · rw [show isDc u = false from by obtain ⟨q, e, _⟩ := z; rw [e]; rfl] at hd; cases hd
theorem key_items {i : Nat} {d : D} {ds : List D} (hk : pairsD d = some ds) : ∀ v, σ[i]? = some (some v) → Rep K B.T G d v → ∃ p u, v = .ref p ∧ G p = some u ∧ isDc u = true ∧ ∀ od h0 g0 M mm, (∀ G' H2 σ' ρ', Sim K (bb' B h0 g0 M mm) G' H2 σ' ρ' → H2 p = some (.frz od u)) →
      ∃ J, WalkS K (bb' B h0 g0 M mm) G J ds ∧ ∀ σ' H' R, σ'[i]? = some (some (.ref p)) → H' p = some (.frz od u) → R J H' → iItT (tVar i) σ' H' R := fun v ev r => by
  cases d with
  | dK kvs =>
    cases hk
    obtain ⟨p, vs, e, hg, rr⟩ := r
    exact ⟨p, _, e, hg, rfl, fun od h0 g0 M mm hH => ⟨_, walkS_IK rr hH, fun σ' H' R hs hh hr => ⟨.ref p, hs, p, od, rfl, .inl ⟨vs, hh, hr⟩⟩⟩⟩
  | dT kvs =>
    cases hk
    obtain ⟨p, vs, e, hg, rr⟩ := r
    exact ⟨p, _, e, hg, rfl, fun od h0 g0 M mm hH => ⟨_, walkS_IT rr hH, fun σ' H' R hs hh hr => ⟨.ref p, hs, p, od, rfl, .inr ⟨vs, hh, hr⟩⟩⟩⟩
  | _ => cases hk
theorem ps_foI {body : List Stmt} {t : Tg} {i : Nat} {f : SF} {elts : List Expr} {kk : Nat} {tpos apos cpos pos} (hp : PassesOwn (model X.prog X.w) X.A X.env X.xe) (hc : X.calm = true) (hi : PE X e (tVar i)) (hg : ∀ h0 g0 M mm, PG X (.Tuple elts kk tpos) (tG X.K (bb' B h0 g0 M mm) t)) (hb : ∀ h0 g0 M mm, PSs X body (tS X.K (bb' B h0 g0 M mm) f))
    (hbase : attributeBase e "items" X.env (eval e X.env) = eval e X.env := by rfl) (hline : (apos.endLine == cpos.line) = true := by rfl)
    (hs : ∀ x, foldedSetIterable (.Call (.Attribute e "items" apos) [] [] cpos) X.env x = pure x := by intro _; rfl) : PS X (.For (.Tuple elts kk tpos) (.Call (.Attribute e "items" apos) [] [] cpos) body [] pos) (tS X.K B (sForI t i f)) := by
  have h1 : PS X (.For (.Tuple elts kk tpos) (.Call (.Attribute e "items" apos) [] [] cpos) body [] pos) (tFor (iItT (tVar i)) (tGb X.K B t) (tSb X.K B f)) := ps_for hp hc (pi_itT hi hbase hline) (pg_b hg) (pss_b hb) hs
  refine PS.imp (PS.or (ps_lock h1) h1) fun D σ H ⟨G, ρ, S, q⟩ => ?_
  dsimp only [sForI] at q
  split at q
  · rename_i d hd
    split at q
    · rename_i ds hk
      exact forW_fz S hd q (key_items hk)
    · exact q.elim
  · rename_i d hd
    split at q
    · rename_i ds hk
      obtain ⟨G', v, e, _, S', _⟩ := S.freeze hd
      exact forW_fz S' (List.getElem?_set_self (List.getElem?_eq_some_iff.mp hd).1) (q.mono e) (key_items hk)
    · exact q.elim
  · exact q.elim
end
end Pf
/-! part Pg2 -/
set_option Elab.async false
set_option linter.all false
set_option maxRecDepth 100000
set_option maxHeartbeats 2000000
/-! Pg2: list(d.values()), d a dict with tuples as keys; l.pop(i). -/
namespace Pf
open PySem PySem.Spec PyProof.Rows L2
theorem meetsVals {prog : Program} {w : World} {d : Addr} {es : Array DictEntry} {ep : Nat} (hd : (d == sysModules) = false) :
    MeetsIn prog w (Builtin.«dict.values» ⟨[.ref d], []⟩) (fun _ R s => DT.Raw s.heap d es ep ∧
      R (.ok (.ret (.ref s.heap.objs.size))) { s with heap := s.heap.push { cls := .type "dict_values", data := .fields #[.ref d] } }) :=
  .of_wp fun A R s ⟨hm, h⟩ => by
    unfold Builtin.«dict.values»
    refine wpAny_bind ?_
    unfold Builtin.Dict.noArgs
    refine wpAny_bind (wpAny_notOrdered_dict hm.typeIs ?_)
    show wpAny _ _ (pure d) _ _ s
    refine wpAny_pure ?_
    show wpAny _ _ (Builtin.Dict.showsAll d >>= _) _ _ s
    unfold Builtin.Dict.showsAll
    rw [if_neg (by rw [hd]; exact Bool.false_ne_true)]
    refine wpAny_bind (wpAny_pure ?_)
    exact wpAny_bind (wpAny_newObj_type (wpAny_pure ⟨_, rfl, h⟩))
theorem callVals {prog : Program} {w : World} {A : Around} {E : Value → Shared → Prop} {s : Shared} {d : Addr} {es : Array DictEntry} {ep : Nat} {Q : Value → Shared → Prop} (hd : (d == sysModules) = false) (hm : DT.Raw s.heap d es ep)
    (h : Q (.ref s.heap.objs.size) { s with heap := s.heap.push { cls := .type "dict_values", data := .fields #[.ref d] } }) : wpAny (model prog w) A (call (.builtin "dict.values") [.ref d]) Q E s :=
  call_meetsIn PySem.F.slot_dict_values hm.typeIs PySem.F.entry_dict_values (PySem.F.args_dict_values_1 _) (meetsVals (es := es) (ep := ep) hd) ⟨hm, h⟩
theorem vals_by : ∀ {vs : List V} {us : List Value}, vs.length = us.length → (∀ (j : Nat) (v : V), vs[j]? = some v → ∃ u, us[j]? = some u ∧ RelV v u) → Vals vs us
  | [], [], _, _ => .nil
  | [], _ :: _, h, _ => by simp at h
  | _ :: _, [], h, _ => by simp at h
  | v :: vs, u :: us, h, g => by
    obtain ⟨u', e, r⟩ := g 0 v rfl
    have e : u = u' := Option.some.inj e
    subst e
    exact .cons r (vals_by (by simpa using h) fun j w hj => g (j + 1) w (by simpa using hj))
section
variable {X : Cx} {B : Bs} {K : PySem.W.Frag} {T : Tab} {G G' H H' : Hp} {σ σ' : L2.St} {ρ ρ' : Ve} {Q : VK} {v : V} {e : Expr} {te : TE} {p apos cpos pos : Pos}
theorem pe_listValsT (hc : X.calm = true) (he : PE X e te) (hg : Gl X "list") (hm : X.mg "list" = none) (hv : bootBuiltins "list" = some (.type "list")) (hbase : attributeBase e "values" X.env (eval e X.env) = eval e X.env := by rfl) (hline : (apos.endLine == cpos.line) = true := by rfl)
    (hs : starEach [.Call (.Attribute e "values" apos) [] [] cpos] X.env = (false, eval (.Call (.Attribute e "values" apos) [] [] cpos) X.env) :: starEach [] X.env := by rfl) :
    PE X (.Call (.Name "list" p) [.Call (.Attribute e "values" apos) [] [] cpos] [] pos) (fun σ H Q => te σ H fun x H1 => ∃ d kvs, x = .ref d ∧ Rd H1 d (.dT kvs) ∧ ∀ l, H1 l = none → Q (.ref l) (upd H1 l (.lst (kvs.map (·.2))))) := by
  refine ⟨fun pins s σ H Q I hq => ?_⟩
  refine wpAny_Call_Name_kw (ld_blt I hg hm hv ?_)
  refine PyProof.Rows.callWith_type1 ?_ hs rfl
  rw [hs]
  show wpAny _ _ (spliced ((false, eval (.Call (.Attribute e "values" apos) [] [] cpos) X.env) :: backTo pos (starEach [] X.env))) _ _ _
  refine Calls.spliced_cons ?_
  refine wpAny_Call_method (T := "dict") (id := "dict.values") hbase rfl hline F.plainAttrs_dict F.slot_dict_values F.type_dict_values (thn (he.run pins s σ H _ I hq) fun u s1 ⟨x, H1, I1, rx, d, kvs, ex, hd, q⟩ => ?_)
  subst ex
  obtain rfl : u = Value.ref d := rx
  obtain ⟨z, hs0, ks, pr, o, es, ep, ho, hx, hdt, hent, hn⟩ := (show ObjOk X.prog X.w H1 s1.heap d (.dT kvs) from hd.ok I1.hok)
  have l1 : es.size = ks.length := size_of_entries hent
  have l2 : kvs.length = ks.length := Paired.length pr
  refine ⟨⟨o, ho, hx.1⟩, fun a ea => ?_, ?_⟩
  · cases ea; exact ⟨o, ho, hx.2.1⟩
  have I2 : Inv X pins σ H1 { s1 with heap := s1.heap.push { cls := .type "dict_values", data := .fields #[.ref d] } } := I1.kept (t' := s1.toks) fun b ob q => Heap.get?_push_of_some _ q
  refine callWith_method0 (first := [.ref d]) (callVals (es := es) (ep := ep) hs0 ⟨o, ho, hx, hdt⟩ ?_)
  refine Calls.spliced_nil ?_
  refine PySem.W.kdl_call (PySem.KdlSrc.rawValues (r := s1.heap.objs.size) (d := d) (es := es) (ep := ep)) (I1.ok.hd hc) ⟨⟨_, Heap.get?_push_size _ rfl, rfl, rfl⟩, ⟨o, Heap.get?_push_of_some _ ho, hx, hdt⟩⟩ (by omega) fun h' tk acc' c' kp eS it => ?_
  have rv : Vals (kvs.map (·.2)) acc'.toList := by
    have hl : acc'.toList.length = ks.length := by rw [Array.length_toList, it.1]; exact l1
    have g : ∀ (j : Nat) (v : V), (kvs.map (·.2))[j]? = some v → ∃ u, acc'.toList[j]? = some u ∧ RelV v u := fun j v hj => by
      rw [List.getElem?_map] at hj
      obtain ⟨kv, h1, h2⟩ := Option.map_eq_some_iff.mp hj
      obtain ⟨b, hb, e1, e2, e3⟩ := paired_get pr h1
      have hjl : j < acc'.toList.length := by rw [hl]; exact (List.getElem?_eq_some_iff.mp hb).1
      obtain ⟨hi, ev⟩ := it.2 j acc'.toList[j] (by rw [← Array.getElem?_toList]; exact List.getElem?_eq_getElem hjl)
      have qe := entry_at hent j
      rw [hb] at qe
      have e4 : es[j] = entryOfKey (tupleKind (mixKind X.prog X.w)) b := Option.some.inj ((Array.getElem?_eq_getElem hi).symm.trans qe)
      refine ⟨_, List.getElem?_eq_getElem hjl, ?_⟩
      rw [ev, e4, ← h2]
      exact e3
    exact vals_by (by rw [List.length_map, l2, hl]) g
  have hn2 := I2.hok.fresh (Nat.le_refl _)
  refine ⟨.ref _, _, I2.laid (t' := tk) (a := (s1.heap.push { cls := .type "dict_values", data := .fields #[.ref d] }).objs.size) (o := .lst (kvs.map (·.2))) (h' := h') kp (Nat.le_refl _) ⟨by rw [List.length_map]; exact z, acc'.toList, c', rv, by rw [Array.toArray_toList]; exact eS⟩, rfl, q _ hn2⟩
/-- list(d.values()) -/
def fLV (o : Opd) : EF := fun ρ => match evO o ρ with
  | .ok h ρ1 => match h.get ρ1 with
    | some (.dT kvs) => .ok true (.lst (kvs.map (·.2))) ρ1
    | _ => .no
  | .ex x ρ1 => .ex x ρ1
  | .no => .no
theorem RepQ.vals : ∀ {kvs : List (List Key × D)} {vs : List (List Key × V)}, RepQ K T G kvs vs → RepL K T G (kvs.map (·.2)) (vs.map (·.2))
  | [], _, h => by cases h; rfl
  | (_, _) :: _, _, ⟨v, r, h1, h2, h3⟩ => by subst h1; exact ⟨v, _, rfl, h2, RepQ.vals h3⟩
theorem pe_lv {o : Opd} (hc : X.calm = true) (he : PE X e (tO X.K B o)) (hg : Gl X "list") (hm : X.mg "list" = none) (hv : bootBuiltins "list" = some (.type "list")) (hbase : attributeBase e "values" X.env (eval e X.env) = eval e X.env := by rfl) (hline : (apos.endLine == cpos.line) = true := by rfl)
    (hs : starEach [.Call (.Attribute e "values" apos) [] [] cpos] X.env = (false, eval (.Call (.Attribute e "values" apos) [] [] cpos) X.env) :: starEach [] X.env := by rfl) :
    PE X (.Call (.Name "list" p) [.Call (.Attribute e "values" apos) [] [] cpos] [] pos) (tF X.K B (fLV o)) :=
  PE.imp (pe_listValsT hc he hg hm hv hbase hline hs) fun σ H Q ⟨G, ρ, S, q⟩ => by
    refine tO_run S ?_
    dsimp only [fLV] at q
    cases h1 : evO o ρ with
    | ex x ρ1 => rw [h1] at q; exact q
    | no => rw [h1] at q; exact q
    | ok h ρ1 =>
      rw [h1] at q
      intro G1 H1 x e1 S1 k1
      dsimp only at q
      cases h2 : h.get ρ1 with
      | none => rw [h2] at q; exact q.elim
      | some d =>
        rw [h2] at q
        cases d with
        | dT kvs =>
          have c := Hd.get_ok S1 k1 h2
          have key : ∃ p vs, x = .ref p ∧ Rd H1 p (.dT vs) ∧ RepQ X.K B.T G1 kvs vs := by
            rcases c with ⟨p, vs, e, s, r⟩ | ⟨p, e, vs, s, r⟩
            · exact ⟨p, vs, e, S1.ex.rd (.inl s), r⟩
            · exact ⟨p, vs, e, .inl s, r⟩
          obtain ⟨p, vs, ex, hd, r⟩ := key
          refine ⟨p, vs, ex, hd, fun l hl => ?_⟩
          have nw := new_lst (T := B.T) (K := X.K) S1.ex hl r.vals
          exact q _ _ _ (e1.trans nw.1.e) (S1.grow nw.1) (nw.val S1)
        | _ => exact q.elim
/-! l.pop(i) -/
theorem RepL.erase : ∀ {ds : List D} {vs : List V} (j : Nat), RepL K T G ds vs → RepL K T G (ds.eraseIdx j) (vs.eraseIdx j)
  | [], _, _, h => by cases h; rfl
  | _ :: _, _, 0, ⟨v, r, h1, h2, h3⟩ => by subst h1; exact h3
  | _ :: _, _, j + 1, ⟨v, r, h1, h2, h3⟩ => by subst h1; exact ⟨v, _, rfl, h2, RepL.erase j h3⟩
def muPop : Mu
  | .lst ds, [.int i] => if okR i = true then match ixN ds.length i with
    | some j => match ds[j]? with
      | some d => some (d, .lst (ds.eraseIdx j))
      | none => none
    | none => none else none
  | _, _ => none
theorem mv_pop : MutV K T rPopAt muPop := fun G H p vs ds d0 d1 res Q x ho hg r hm k => by
  unfold muPop at hm
  split at hm
  · rename_i l i
    split at hm
    · rename_i hok
      split at hm
      · rename_i j hj
        split at hm
        · rename_i d hd
          cases hm
          obtain ⟨xs, hp, rx⟩ := ho
          obtain ⟨v, w, e, r1, r2⟩ := r
          cases r2
          subst e
          obtain rfl : v = .int i := r1
          obtain ⟨a1, a2⟩ := okR_of hok
          obtain ⟨y, hy, ry⟩ := rx.get hd
          refine ⟨p, xs, i, j, y, rfl, rfl, hp, by omega, by omega, by rw [rx.len]; exact (ixN_seq hj).1, hy, ?_⟩
          exact k _ _ ⟨_, upd_same, rx.erase j⟩ ry
        · cases hm
      · cases hm
    · cases hm
  · cases hm
theorem pe_pop {es : List Expr} {a : Expr} {o : Expr} {i : Nat} {os : List Opd} {apos cpos} (ho : PE X o (tVar i)) (ha : PA X (a :: es) (tOs X.K B os)) (hbase : attributeBase o "pop" X.env (eval o X.env) = eval o X.env := by rfl)
    (hfew : ((backTo cpos (starEach (a :: es) X.env)).all (fun x => !x.1) && (backToKw cpos (keywordEach [] X.env)).all (fun x => x.1.isSome)
      && decide ((a :: es).length + ([] : List Keyword).length + (if ([] : List Keyword).isEmpty then 0 else 1) < 30)) = true := by rfl)
    (hline : (apos.endLine == cpos.line) = true := by rfl) (hs : starEach (a :: es) X.env = (false, eval a X.env) :: starEach es X.env := by rfl) (hplain : (backTo cpos (starEach es X.env)).any (·.1) = false := by rfl) :
    PE X (.Call (.Attribute o "pop" apos) (a :: es) [] cpos) (tF X.K B (fMut isLst muPop i os)) :=
  PE.imp (pe_bm PySem.F.plainAttrs_list PySem.F.slot_list_pop PySem.F.type_list_pop mt_popAt ho ha hbase hfew hline hs hplain) fun σ H Q ⟨G, ρ, S, q⟩ => mut_read mv_pop ty_lst S q
end
end Pf
/-! part Pg3 -/
set_option Elab.async false
set_option linter.all false
set_option maxRecDepth 100000
set_option maxHeartbeats 2000000
/-! Pg3: sorted(s, reverse=b), s a list or a tuple of ints. -/
namespace SrtR
open PySem PyProof.Rows Srt SrtO
section
variable {prog : Program} {w : World} {A : Around} {E : Value → Shared → Prop} {s : Shared}
/-- sorted(s, reverse=b), s any list or tuple: the new list stands in a heap that keeps what stood -/
theorem sorted_ordS {l : Addr} {T : String} {o : Obj} {n : Nat} {vs : List Value} {b : Bool} {ltv : Value → Value → Bool} {Q : Value → Shared → Prop} (hT : T = "list" ∨ T = "tuple")
    (ho : s.heap.get? l = some o) (hc : o.cls = .type T) (hd : o.data = .seq vs.toArray n) (O : Swo ltv) (hz : vs.length ≤ sizeLine)
    (hS : 2 ≤ vs.length → ∀ (h₁ : Heap) (a : Addr), h₁.get? a = some (seqObj "list" vs.toArray 0) → (∀ b o, s.heap.get? b = some o → b ≠ a ∧ h₁.get? b = some o) → SortableO prog w A.in1.in1 { s with heap := h₁ } a vs ltv)
    (h : ∀ (out : List Value) (h₂ : Heap) (a : Addr), Srtd ltv out → Stb ltv out (if b = true then vs.reverse else vs) → s.heap.get? a = none ∧ (∃ h₃ : Heap, (∀ b o, s.heap.get? b = some o → h₃.get? b = some o) ∧ a = h₃.objs.size) → (∀ b o, s.heap.get? b = some o → h₂.get? b = some o) →
      (∃ ep, h₂.get? a = some (seqObj "list" (if b = true then out.toArray.reverse else out.toArray) ep)) → Q (.ref a) { s with heap := h₂ }) :
    wpAny (model prog w) A (call (.builtin "sorted") [.ref l] [(Str.ofString "reverse", .bool b)]) Q E s := by
  refine call_function_entry_kw kind_sorted plain_sorted entry_sorted (args_sorted_rev _ _) ?_
  unfold Builtin.«sorted»
  refine wpAny_bind (m := checkCount "sorted" 1 1 _) (wpAny_pure ?_)
  refine wpAny_bind (wpAny_collect_seq l hT ho hc hd (fun h1 hk => ?_) (by rw [List.size_toArray]; exact hz))
  have hv : vs.toArray.toList = vs := by simp
  rw [hv]
  refine wpAny_bind (wpAny_newList ?_ hz)
  have hoL : (h1.push (seqObj "list" vs.toArray 0)).get? h1.objs.size = some (seqObj "list" vs.toArray 0) := Heap.get?_push_size _ rfl
  have keep : ∀ b o, s.heap.get? b = some o → b ≠ h1.objs.size ∧ (h1.push (seqObj "list" vs.toArray 0)).get? b = some o := fun b o q =>
    ⟨Nat.ne_of_lt (Heap.lt_size (hk b o q)), Heap.get?_push_of_some _ (hk b o q)⟩
  have hnone : s.heap.get? h1.objs.size = none := by
    cases e : s.heap.get? h1.objs.size with
    | none => rfl
    | some o => exact absurd rfl (keep _ _ e).1
  show wpAny _ _ _ _ _ { s with heap := h1.push (seqObj "list" vs.toArray 0) }
  refine wpAny_bind (wpAny_holding (wpAny_call_entry_kw slot_list_sort ⟨_, hoL, rfl⟩ entry_list_sort ?_ (args_list_sort_rev _ _)))
  refine list_sort_ordR O hoL hz (fun h2 => hS h2 _ _ hoL keep) fun out hs hb => ⟨_, rfl, ?_⟩
  refine wpAny_pure ⟨_, rfl, h out _ _ hs hb ⟨hnone, h1, hk, rfl⟩ (fun b o q => ?_) (sortedHeap_at hoL)⟩
  show (sortedHeap _ _ _ _).get? b = some o
  rw [sortedHeap_old (keep b o q).1 (Heap.lt_size (keep b o q).2)]
  exact (keep b o q).2
end
end SrtR
namespace Pf
open PySem PySem.Spec PyProof.Rows L2
noncomputable section
section
variable {X : Cx} {B : Bs} {K : PySem.W.Frag} {T : Tab} {G G' H H' : Hp} {σ σ' : L2.St} {ρ ρ' : Ve} {Q : VK} {v : V} {e : Expr} {es : List Expr} {p : Addr}
def rSortS (K : PySem.W.Frag) (b : Bool) (zs0 : List V) : List V → List V → Hp → VK → Prop := fun vs zs H Q => ∃ (a : Addr) (ns : List Int), vs = [V.ref a] ∧ zs = zs0 ∧ (SqL K H a (ns.map V.int) ∨ SqT K H a (ns.map V.int)) ∧
  ∀ (ns' : List Int) (p : Addr), ns'.Perm ns → OrdB b ns' → H p = none → Q (.ref p) (upd H p (.lst (ns'.map V.int)))
theorem cr_sortS {b : Bool} : CallRK X (.builtin "sorted") [Str.ofString "reverse"] (rSortS X.K b [.bl b]) := by
  intro pins s σ H vs zs us ws Q I r rz h
  obtain ⟨a, ns, rfl, rfl, hs, q⟩ := h
  obtain rfl := Vals.ref1 r
  obtain ⟨w1, rfl, e1⟩ := vals1 rz
  obtain rfl : w1 = Value.bool b := e1
  have key : ∃ (its : List Value) (T : String) (o : Obj) (n : Nat), Vals (ns.map V.int) its ∧ (T = "list" ∨ T = "tuple") ∧ s.heap.get? a = some o ∧ o.cls = .type T ∧ o.data = .seq its.toArray n ∧ (ns.map V.int).length ≤ sizeLine := by
    rcases hs with hs | hs
    · obtain ⟨its, rv, ⟨o, n, ho, hc, _, hd⟩, hz⟩ := I.list hs
      exact ⟨its, _, o, n, rv, .inl rfl, ho, hc, hd, hz⟩
    · obtain ⟨its, rv, ⟨o, ho, hc, n, hd⟩, hz⟩ := I.tuple hs
      exact ⟨its, _, o, n, rv, .inr rfl, ho, hc, hd, hz⟩
  obtain ⟨its, T, o, n, rv, hT, ho, hc, hd, hz⟩ := key
  have hi := rv.ints
  refine SrtR.sorted_ordS hT ho hc hd SrtO.swo_int (by rw [← rv.length]; exact hz) (fun h2 h₁ a' _ _ => SrtO.ints_sortable hi h2) fun out h2 p h1 hb ⟨hn, h3, hk3, hp3⟩ hk hat => ?_
  obtain ⟨ns', k1, k2, k3⟩ := SrtR.ints_outR hi h1 hb
  obtain ⟨ep, he'⟩ := hat
  have hlen : (ns'.map V.int).length ≤ sizeLine := by
    rw [List.length_map, k2.length_eq]
    rw [List.length_map] at hz
    exact hz
  have e0 : ((if b = true then out.toArray.reverse else out.toArray).toList).toArray = (if b = true then out.toArray.reverse else out.toArray) := by rw [Array.toArray_toList]
  have hH : H p = none := (I.hok.kept hk3).fresh (by rw [hp3]; exact Nat.le_refl _)
  exact ⟨.ref p, upd H p (.lst (ns'.map V.int)), I.laidN (t' := s.toks) hk hn hH ⟨hlen, _, ep, vals_of_ints k1, by rw [e0]; exact he'⟩, rfl, q _ _ k2 k3 hH⟩
def prSortS (b : Bool) : Pr
  | [a] => match seqOf a with
    | some ds => match intsOf ds with
      | some ns => some (true, .lst ((srtB b ns).map D.int))
      | none => none
    | none => none
  | _ => none
theorem cv_sortS {b : Bool} {zs : List V} : CallV K T (fun vs H Q => rSortS K b zs vs zs H Q) (prSortS b) := fun G H vs ds fl d Q x c hp k => by
  unfold prSortS at hp
  split at hp
  · obtain ⟨u, rfl, c1⟩ := c.one
    split at hp
    · rename_i ds hq
      split at hp
      · rename_i ns hn
        cases hp
        obtain ⟨p, xs, e, s, r⟩ := c1.seq x hq
        have hr := intsOf_rel hn r
        subst hr
        refine ⟨p, ns, by rw [e], rfl, s, fun ns' q hp ho hq => ?_⟩
        rw [srtB_uniq hp ho]
        exact k _ _ _ (new_lst x hq (RepL.map fun _ => rfl))
      · cases hp
    · cases hp
  · cases hp
theorem pe_sortS {a : Expr} {o : Opd} {b : Bool} {p pos : Pos} {kp : Pos} {ke : Expr} (hg : Gl X "sorted") (hm : X.mg "sorted" = none) (h : PE X a (tO X.K B o)) (hk : PE X ke (tC (.bl b))) (hs : starEach [a] X.env = [(false, eval a X.env)] := by rfl)
    (he : backTo pos (starEach [a] X.env) = (false, eval a X.env) :: backTo pos (starEach [] X.env) := by rfl) (hpl : (backTo pos (starEach [a] X.env)).any (·.1) = false := by rfl)
    (hall : (backToKw pos (keywordEach [⟨some "reverse", ke, kp⟩] X.env)).all (·.1.isSome) = true := by rfl) (hnone : (backToKw pos (keywordEach [⟨some "reverse", ke, kp⟩] X.env)).any (·.1.isNone) = false := by rfl) (hks : (backToKw pos (keywordEach [⟨some "reverse", ke, kp⟩] X.env)).filterMap (·.1) = [Str.ofString "reverse"] := by rfl) :
    PE X (.Call (.Name "sorted" p) [a] [⟨some "reverse", ke, kp⟩] pos) (tF X.K B (fPrim (prSortS b) [o])) :=
  pe_prim (PE.imp (pe_callBK (x := "sorted") (p := p) (pos := pos) (kws := [⟨some "reverse", ke, kp⟩]) (cr_sortS (b := b)) hg hm (by rfl) (pa_cons h pa_nil hs) (pk_cons hk pk_nil) (by decide) (by decide) he hpl hall hnone hks) fun σ H Q q => q) cv_sortS
end
end
end Pf
/-! part Px3 -/
set_option Elab.async false
set_option linter.all false
set_option maxRecDepth 100000
set_option maxHeartbeats 2000000
/-! Px3: the __init__ of an own exception that stores one or two parameters. -/
namespace Pf
open PySem PySem.Spec PyProof.Rows L2 NdefX
section
variable {K : PySem.W.Frag} {T : Tab} {c : Nat} {N : List Str} {vs : List V} {H : Hp} {Q : VK} {E : XK} {f f1 f2 : Str}
theorem ini_one (hL : T.L c = [f]) (cl : OexC K (T.C c)) (no : PySem.W.findIn K (.ref (T.C c)) f = some none) (h : spIni K T c [0] 1 vs H Q E) : spSup N 2 (T.C c) (tOst K f (tVar 0) (tVar 1)) vs H Q E := by
  obtain ⟨a, ws, rfl, hl, ha, q⟩ := h
  obtain ⟨w, rfl⟩ : ∃ w, ws = [w] := List.length_eq_one_iff.mp hl
  refine ⟨a, [w], rfl, rfl, ha, w, rfl, .ref a, rfl, a, T.C c, rfl, cl, no, .inl ⟨ha, fun dx hd ne => ?_⟩⟩
  refine q dx _ hd ne upd_same ?_ fun b h1 h2 => by rw [upd_ne h1, upd_ne h2]
  rw [upd_ne ne, upd_same, hL]; rfl
theorem ini_two (hL : T.L c = [f2, f1]) (cl : OexC K (T.C c)) (no1 : PySem.W.findIn K (.ref (T.C c)) f1 = some none) (no2 : PySem.W.findIn K (.ref (T.C c)) f2 = some none) (h : spIni K T c [1, 0] 2 vs H Q E) :
    spSup N 3 (T.C c) (fun D σ H => tOst K f1 (tVar 0) (tVar 1) { D with nx := fun σ' H' => tOst K f2 (tVar 0) (tVar 2) D σ' H' } σ H) vs H Q E := by
  obtain ⟨a, ws, rfl, hl, ha, q⟩ := h
  obtain ⟨w1, w2, rfl⟩ : ∃ w1 w2, ws = [w1, w2] := by
    match ws, hl with
    | [w1, w2], _ => exact ⟨w1, w2, rfl⟩
  refine ⟨a, [w1, w2], rfl, rfl, ha, w1, rfl, .ref a, rfl, a, T.C c, rfl, cl, no1, .inl ⟨ha, fun dx hd ne => ?_⟩⟩
  refine ⟨w2, rfl, .ref a, rfl, a, T.C c, rfl, cl, no2, .inr ⟨dx, [(f1, w1)], upd_same, by rw [upd_ne ne, upd_same], Nat.le_of_ble_eq_true rfl, ?_⟩⟩
  refine q dx _ hd ne ?_ ?_ fun b h1 h2 => by rw [upd_ne h2, upd_ne h1, upd_ne h2]
  · rw [upd_ne (Ne.symm ne), upd_same]
  · rw [upd_same, hL]; rfl
end
end Pf
/-! part Pe0 -/
set_option Elab.async false
set_option linter.all false
set_option maxRecDepth 100000
set_option maxHeartbeats 2000000
/-! Pe0: the head: facts of exception classes, tables of code objects. -/
namespace Pf
open PySem PySem.Spec PyProof.Rows L2
def codeA (K : PySem.W.Frag) (f : Addr) : Addr := match K.lookup f with
  | some ⟨_, _, .func fd, _⟩ => (match fd.code with | .ref c => c | _ => 0)
  | _ => 0
def cellA (K : PySem.W.Frag) (f : Addr) : Addr := match K.lookup f with
  | some ⟨_, _, .func fd, _⟩ => (match fd.closure with | (_, c) :: _ => c | _ => 0)
  | _ => 0
def tabA (K : PySem.W.Frag) (f : Addr) : Addr := match K.lookup (codeA K f) with
  | some ⟨_, _, .fields vs, _⟩ => (match (vs[11]? : Option Value) with | some (.ref P) => P | _ => 0)
  | _ => 0
def codeFile (K : PySem.W.Frag) (c : Addr) (file : Str) : Bool := match K.lookup c with
  | some ⟨_, _, .fields vs, _⟩ => (match (vs[2]? : Option Value) with | some (.str f _) => decide (f = file) | _ => false)
  | _ => false
def cellIs (K : PySem.W.Frag) (cc C : Addr) : Bool := match K.lookup cc with
  | some ⟨_, _, .cell (some (.ref C')), _⟩ => decide (C' = C)
  | _ => false
def oexB (K : PySem.W.Frag) (C : Addr) : Bool := (match K.lookup C with
  | some ⟨.type "type", _, .cls cd, sl⟩ => (match cd.mro, sl.toList with
    | .ref C' :: bm, [_, _, _, _, some (.builtin n), _] => C' == C && n == "ValueError.__new__" && !cd.hasDel && cd.hasDict && PySem.HandSPX.refsVE bm
    | _, _ => false)
  | _ => false) && (He.eqO (PySem.W.findIn K (.ref C) "__setattr__") (some (some (.builtin "object.__setattr__"))) && (decide (PySem.W.subIn K (.ref C) (.type "BaseException") = some true) && (decide (PySem.W.typeIn K (.ref C) = some (.type "type")) && PySem.W.keepIn K (.ref C))))
theorem oexB_ok {K : PySem.W.Frag} {C : Addr} (h : oexB K C = true) : OexC K C := by
  obtain ⟨h1, h⟩ := He.ba h
  obtain ⟨h2, h⟩ := He.ba h
  obtain ⟨h3, h⟩ := He.ba h
  obtain ⟨h4, h5⟩ := He.ba h
  refine ⟨?_, He.eqO_ok h2, of_decide_eq_true h3, of_decide_eq_true h4, h5⟩
  split at h1
  · rename_i dd cd sl ho
    split at h1
    · rename_i C' bm k0 k1 k2 k3 n k5 hm hs
      simp only [Bool.and_eq_true, beq_iff_eq, Bool.not_eq_true'] at h1
      obtain ⟨⟨⟨⟨rfl, rfl⟩, hdel⟩, hdct⟩, ht⟩ := h1
      obtain ⟨nm, bs, mro, ns, qn, hd, sn, sub, ab, col, del⟩ := cd
      dsimp only at hm hdel hdct
      subst hm hdel hdct
      have hsl : sl = #[k0, k1, k2, k3, some (.builtin "ValueError.__new__"), k5] := by
        obtain ⟨l⟩ := sl
        simp only at hs
        rw [hs]
      subst hsl
      exact ⟨nm, qn, ns, bs, bm, sn, sub, ab, col, dd, k0, k1, k2, k3, k5, ho, ht⟩
    · cases h1
  · cases h1
/-- facts of exceptions -/
inductive Fy where
  | oex (x : Str)
  | xini (x file : Str)
  | xfc (x : Str)
  | xcc (x : Str)
def Fy.ok (K : PySem.W.Frag) : Fy → Bool
  | .oex x => oexB K (He.ga K x)
  | .xini x file => He.eqO (PySem.W.findIn K (.ref (He.ga K x)) "__init__") (some (some (.ref (He.ma K (He.ga K x) "__init__")))) && (decide (PySem.W.typeIn K (.ref (He.ma K (He.ga K x) "__init__")) = some (.type "function")) &&
    (decide (PySem.W.mroIn K (He.ga K x) (.ref (He.ga K x)) = some true) && (He.eqO (PySem.W.ks_superIn K (He.ga K x) (He.ga K x) "__init__") (some (some (.builtin "ValueError.__init__"))) &&
    (decide (PySem.W.subIn K (.ref (He.ga K x)) (.type "ValueError") = some true) && (He.eqO (PySem.W.nsIn K cStatics "thirdparty.any") (some none) &&
    (codeFile K (codeA K (He.ma K (He.ga K x) "__init__")) file && cellIs K (cellA K (He.ma K (He.ga K x) "__init__")) (He.ga K x)))))))
  | .xfc x => xfB K (He.ga K x)
  | .xcc x => He.eqO (PySem.W.findIn K (.ref (He.ga K x)) "__getattribute__") (some (some (.builtin "BaseException.__getattribute__"))) && (He.eqO (PySem.W.findIn K (.ref (He.ga K x)) "__getattr__") (some none) &&
    (decide (PySem.W.subIn K (.ref (He.ga K x)) (.type "BaseException") = some true) && (PySem.W.hasDictIn K (He.ga K x) && (He.eqO (PySem.W.findIn K (.ref (He.ga K x)) "__class__") (some (some (.builtin "object.__class__"))) &&
    (He.eqO (PySem.W.specialIn K (.builtin "object.__class__") "__get__") (some (some (.builtin "getset_descriptor.__get__"))) && (decide (PySem.W.takesIn K (.builtin "object.__class__") = some true) && decide (PySem.W.mroIn K (He.ga K x) (.type "object") = some true)))))))
section
variable {K : PySem.W.Frag}
theorem oex_ok {x : Str} (h : (Fy.oex x).ok K = true) : OexC K (He.ga K x) := oexB_ok h
theorem xfc_ok {x : Str} (h : (Fy.xfc x).ok K = true) : XfC K (He.ga K x) := xfB_ok h
theorem xcc_ok {x : Str} (h : (Fy.xcc x).ok K = true) : ExcC K (He.ga K x) := by
  obtain ⟨h1, h⟩ := He.ba h
  obtain ⟨h2, h⟩ := He.ba h
  obtain ⟨h3, h⟩ := He.ba h
  obtain ⟨h4, h⟩ := He.ba h
  obtain ⟨h5, h⟩ := He.ba h
  obtain ⟨h6, h⟩ := He.ba h
  obtain ⟨h7, h8⟩ := He.ba h
  exact ⟨He.eqO_ok h1, He.eqO_ok h2, of_decide_eq_true h3, h4, He.eqO_ok h5, He.eqO_ok h6, of_decide_eq_true h7, of_decide_eq_true h8⟩
/-- a def of a class body, closed over __class__ -/
structure DefI where
  cls : Str
  name : Str
  qual : Str
  params : Arguments
  body : List Stmt
  scope : Scope
def fnI (K : PySem.W.Frag) (a : Addr) : He.FnW := match K.lookup a with
  | some ⟨_, _, .func fd, _⟩ => some (fd.name, fd.qualname, fd.params, fd.body, fd.scope, fd.globals, fd.closure.map (fun p => (p.1, 0)), fd.builtins)
  | _ => none
def DefI.at_ (K : PySem.W.Frag) (d : DefI) : Addr := He.ma K (He.ga K d.cls) "__init__"
def DefI.val (d : DefI) : He.FnW := some (d.name, d.qual, d.params, .stmts d.body, d.scope, mainGlobals, [("__class__", 0)], builtinsNs)
def DefI.ok (K : PySem.W.Frag) (d : DefI) : Bool := PySem.W.codeIn K (.ref (codeA K (d.at_ K))) d.qual && (match K.lookup (d.at_ K) with
  | some ⟨_, _, .func fd, _⟩ => decide (fd.code = .ref (codeA K (d.at_ K))) && decide (fd.defaults = .none)
  | _ => false)
theorem DefI.lk {d : DefI} (e : fnI K (d.at_ K) = d.val) (c : d.ok K = true) : ∃ (oc : Value) (od : Option Addr) (kV doc pm ct : Value) (an : Option Addr) (osl : Array (Option Value)),
    K.lookup (d.at_ K) = some ⟨oc, od, .func (PySem.W.fnX d.name d.qual d.params d.body d.scope [("__class__", cellA K (d.at_ K))] .none kV doc pm an (.ref (codeA K (d.at_ K))) ct), osl⟩ ∧ PySem.W.codeIn K (.ref (codeA K (d.at_ K))) d.qual = true := by
  obtain ⟨c1, c2⟩ := He.ba c
  unfold fnI at e
  cases q : K.lookup (d.at_ K) with
  | none => rw [q] at c2; cases c2
  | some o =>
    obtain ⟨oc, od, dt, osl⟩ := o
    rw [q] at c2 e
    cases dt with
    | func fd =>
      obtain ⟨c3, c4⟩ := He.ba c2
      have hcell : cellA K (d.at_ K) = (match fd.closure with | (_, c) :: _ => c | _ => 0) := by unfold cellA; rw [q]
      have hcode := of_decide_eq_true c3
      have hdf := of_decide_eq_true c4
      obtain ⟨n1, n2, n3, n4, n5, n6, n7, n8, n9, n10, n11, n12, n13, n14, n15⟩ := fd
      have e := Option.some.inj e
      simp only [Prod.mk.injEq] at e
      obtain ⟨e1, e2, e3, e4, e5, e6, e7, e8⟩ := e
      dsimp only at hcode hdf hcell
      subst e1 e2 e3 e4 e5 e6 e8 hcode hdf
      cases n7 with
      | nil => cases e7
      | cons p r =>
        cases r with
        | nil =>
          obtain ⟨x, cc⟩ := p
          have e7 : [(x, (0 : Addr))] = [(("__class__" : Str), (0 : Addr))] := e7
          have e7 := (Prod.mk.inj (List.cons.inj e7).1).1
          have hcell : cellA K (d.at_ K) = cc := hcell
          rw [hcell, ← e7]
          exact ⟨oc, od, _, _, _, _, _, osl, rfl, c1⟩
        | cons p2 r2 =>
          have z := congrArg List.length e7
          simp at z
    | _ => cases c2
end
end Pf
/-! part Pe1 -/
set_option Elab.async false
set_option linter.all false
set_option maxRecDepth 100000
set_option maxHeartbeats 2000000
/-! Pe1: the Hook with tables of code objects, the end. -/
namespace Pf
open PySem PySem.Spec PyProof.Rows L2
/-- a def of the top (He5.DefA) that makes lambdas, by where it stands -/
abbrev MkA : Type := PySem.W.Frag → Addr
structure HArgs where
  fa : List He.Fa
  fx : List Fx
  fy : List Fy
  fn : List DefA
  fi : List DefI
  ms : List MkA
def tabB (g : Addr → Option Obj) (K : PySem.W.Frag) (f : Addr) : Bool := (match g (tabA K f) with
  | some ⟨.none, none, .fields vs, sl⟩ => vs.size == 0 && sl.size == 0
  | _ => false) && ((K.lookup (tabA K f)).isNone && PySem.W.codeHdIn K (codeA K f) (tabA K f))
/-- what an object names; a code object's own parts (its table among them) are not asked for -/
def refsT (o : Obj) : List Addr := match o.cls with
  | .type n => if n == "code" then [] else He.refsD o
  | _ => He.refsD o
def growT (g : Addr → Option Obj) (as : List Addr) : List Addr := (as ++ as.flatMap fun a => match g a with
  | some o => refsT o
  | none => []).eraseDups
def asT (g : Addr → Option Obj) : Nat → List Addr
  | 0 => [mainGlobals]
  | n + 1 => growT g (asT g n)
def fragT (n : Nat) (_mk : List MkA) (g : Addr → Option Obj) : PySem.W.Frag := He.frG g (asT g n ++ [cStatics])
def obsT (a : HArgs) (g : Addr → Option Obj) (K : PySem.W.Frag) : He.AlD := ((a.fa.all fun f => f.ok K) && ((a.fx.all fun f => f.ok K) && ((a.fy.all fun f => f.ok K) && ((a.fn.all fun d => d.ok K) && ((a.fi.all fun d => d.ok K) &&
  ((a.ms.all fun m => tabB g K (m K)) && decide ((a.ms.map fun m => tabA K (m K)).Nodup)))))), (a.fn.map fun d => He5.fnA K (d.at_ K)) ++ a.fi.map fun d => fnI K (d.at_ K))
def valT (a : HArgs) : He.AlD := (true, a.fn.map He5.DefA.val ++ a.fi.map DefI.val)
def SaysT (a : HArgs) (g : Addr → Option Obj) (K : PySem.W.Frag) : Prop := obsT a g K = valT a
def obsTG (n : Nat) (a : HArgs) (g : Addr → Option Obj) : He.AlD := obsT a g (fragT n a.ms g)
def hookT (n : Nat) (a : HArgs) : PySem.W.Hook where
  α := He.AlD
  obs := fun s => obsTG n a s.heap.get?
  val := fun _ => valT a
  says := fun _ h => ∃ (K : PySem.W.Frag) (g : Addr → Option Obj), K.In h ∧ (∀ b o, g b = some o → h.get? b = some o) ∧ SaysT a g K
  of := fun _ s e => ⟨_, _, He.frG_in, fun _ _ h => h, e⟩
  keeps := fun _ _ _ ⟨K, g, hK, hg, c⟩ k => ⟨K, g, PySem.W.Frag.In.keeps hK k, fun b o h => k b o (hg b o h), c⟩
theorem obsTG_eq {n : Nat} {a : HArgs} {g : Addr → Option Obj} {s : Shared} (h : ∀ b, g b = s.heap.get? b) : obsTG n a g = (hookT n a).obs s := by
  have e : g = s.heap.get? := funext h
  rw [e] <;> rfl
section
variable {a : HArgs} {g : Addr → Option Obj} {K : PySem.W.Frag} {h : Heap}
theorem SaysT.b (c : SaysT a g K) : (a.fa.all fun f => f.ok K) = true ∧ (a.fx.all fun f => f.ok K) = true ∧ (a.fy.all fun f => f.ok K) = true ∧ (a.fn.all fun d => d.ok K) = true ∧ (a.fi.all fun d => d.ok K) = true ∧ (a.ms.all fun m => tabB g K (m K)) = true ∧ (a.ms.map fun m => tabA K (m K)).Nodup := by
  have c0 : (obsT a g K).1 = true := congrArg (fun z : He.AlD => z.1) c
  obtain ⟨h1, c0⟩ := He.ba c0
  obtain ⟨h2, c0⟩ := He.ba c0
  obtain ⟨h3, c0⟩ := He.ba c0
  obtain ⟨h4, c0⟩ := He.ba c0
  obtain ⟨h5, c0⟩ := He.ba c0
  obtain ⟨h6, c0⟩ := He.ba c0
  exact ⟨h1, h2, h3, h4, h5, h6, of_decide_eq_true c0⟩
theorem SaysT.fact (c : SaysT a g K) (i : Nat) {f : He.Fa} (h : a.fa[i]? = some f := by rfl) : f.ok K = true := List.all_eq_true.mp c.b.1 f (List.mem_of_getElem? h)
theorem SaysT.fact2 (c : SaysT a g K) (i : Nat) {f : Fx} (h : a.fx[i]? = some f := by rfl) : f.ok K = true := List.all_eq_true.mp c.b.2.1 f (List.mem_of_getElem? h)
theorem SaysT.fact3 (c : SaysT a g K) (i : Nat) {f : Fy} (h : a.fy[i]? = some f := by rfl) : f.ok K = true := List.all_eq_true.mp c.b.2.2.1 f (List.mem_of_getElem? h)
theorem SaysT.lists (c : SaysT a g K) : (a.fn.map fun d => He5.fnA K (d.at_ K)) = a.fn.map He5.DefA.val ∧ (a.fi.map fun d => fnI K (d.at_ K)) = a.fi.map DefI.val := by
  have e : (a.fn.map fun d => He5.fnA K (d.at_ K)) ++ (a.fi.map fun d => fnI K (d.at_ K)) = a.fn.map He5.DefA.val ++ a.fi.map DefI.val := congrArg (fun z : He.AlD => z.2) c
  exact List.append_inj e (by rw [List.length_map, List.length_map])
theorem SaysT.def_ (c : SaysT a g K) (i : Nat) {d : DefA} (h : a.fn[i]? = some d := by rfl) : ∃ fd, FunD K d.name d.qual d.params d.body d.scope (d.dvs K) (d.kws K) (d.at_ K) fd := by
  have e2 : (a.fn.map fun d => He5.fnA K (d.at_ K))[i]? = (a.fn.map He5.DefA.val)[i]? := by rw [c.lists.1]
  rw [List.getElem?_map, List.getElem?_map, h] at e2
  exact He5.DefA.funD (Option.some.inj e2) (List.all_eq_true.mp c.b.2.2.2.1 d (List.mem_of_getElem? h))
theorem SaysT.ini (c : SaysT a g K) (i : Nat) {d : DefI} (h : a.fi[i]? = some d := by rfl) : fnI K (d.at_ K) = d.val ∧ d.ok K = true := by
  have e2 : (a.fi.map fun d => fnI K (d.at_ K))[i]? = (a.fi.map DefI.val)[i]? := by rw [c.lists.2]
  rw [List.getElem?_map, List.getElem?_map, h] at e2
  exact ⟨Option.some.inj e2, List.all_eq_true.mp c.b.2.2.2.2.1 d (List.mem_of_getElem? h)⟩
/-- the code objects of the makers and their tables -/
def csT (a : HArgs) (K : PySem.W.Frag) : List (Addr × Addr) := a.ms.map fun m => (codeA K (m K), tabA K (m K))
theorem SaysT.tabs (c : SaysT a g K) (KX : K.In h) (hg : ∀ b o, g b = some o → h.get? b = some o) :
    (∀ p ∈ csT a K, h.get? p.2 = some { cls := .none, data := .fields #[] }) ∧ (∀ p ∈ csT a K, K.lookup p.2 = none) ∧ (∀ p ∈ csT a K, PySem.W.CodeHd h p.1 p.2) := by
  have key : ∀ p ∈ csT a K, h.get? p.2 = some { cls := .none, data := .fields #[] } ∧ K.lookup p.2 = none ∧ PySem.W.CodeHd h p.1 p.2 := fun p hp => by
    obtain ⟨m, hm, rfl⟩ := List.mem_map.mp hp
    have b := List.all_eq_true.mp c.b.2.2.2.2.2.1 m hm
    obtain ⟨b1, b2⟩ := He.ba b
    obtain ⟨b2, b3⟩ := He.ba b2
    refine ⟨hg _ _ ?_, ?_, PySem.W.codeHd_of_K KX b3⟩
    · split at b1
      · rename_i vs sl e
        obtain ⟨z1, z2⟩ := He.ba b1
        have e1 : vs = #[] := Array.eq_empty_of_size_eq_zero (eq_of_beq z1)
        have e2 : sl = #[] := Array.eq_empty_of_size_eq_zero (eq_of_beq z2)
        subst e1 e2
        exact e
      · cases b1
    · show K.lookup (tabA K (m K)) = none
      cases q : K.lookup (tabA K (m K)) with
      | none => rfl
      | some o => rw [q] at b2; cases b2
  exact ⟨fun p hp => (key p hp).1, fun p hp => (key p hp).2.1, fun p hp => (key p hp).2.2⟩
end
/-- a law: the promise over every base that knows the makers' tables -/
theorem walkT {l : PySem.W.OpenLaw} {n k : Nat} {q : Program} {loose : List Str} {XP : (Str → Option Value) → Heap → Prop} {d : DefRec} {x : Str} {nn : Nat} {a : HArgs}
    (hn : l.most = some n) (hn2 : n ≤ sizeLine) (hdf : d.params.defaults = []) (hr : Room k callerA)
    (F : ∀ (w : World) (mg : Str → Option Value) (fa : Addr) (h : Heap) (K : PySem.W.Frag) (g : Addr → Option Obj), K.In h → SaysT a g K → h.Ns mainGlobals mg → mg d.name = some (.ref fa) →
      ∃ (fd : FuncData) (sp : Sp), (∀ (s : Shared) (u : Value), BindsTo s fd ⟨[u], []⟩ [(x, u)]) ∧
        (∀ (H : Hp) (b : Addr) (ns : List Int), ns.length ≤ n → (∀ p ∈ csT a K, H p.2 = some (.tbl #[])) → SqL K H b (ns.map V.int) → sp [.ref b] H (fun v _ => v = .bl true) fun _ _ _ => False) ∧
        ∀ base : Heap, K.In base → base.Ns mainGlobals mg → (∀ p ∈ csT a K, LamX.TabB base mg p.1 p.2) → FnOk l.prog w K mg base (L2N.CX l.prog w) k fa fd [x] sp) :
    PySem.W.WalkO q loose XP (hookT nn a).says l.row.toRowW d [] (fun f vs => PySem.call f vs) :=
  LamX.walk_ofTsE (CX := fun w => L2N.CX l.prog w) hn hn2 hdf hr (fun w mg fa h Y G hmg => by
    obtain ⟨K, g, KX, hg, c⟩ := Y
    obtain ⟨fd, sp, hb, hsp, hF⟩ := F w mg fa h K g KX c G hmg
    obtain ⟨t1, t2, t3⟩ := c.tabs KX hg
    exact ⟨K, KX, fd, csT a K, sp, t1, t2, t3, hb, fun H b ns hl _ hT hS => hsp H b ns hl hT hS, hF⟩) fun w H s e s' z => by
    obtain ⟨_, _, _, _, _, _, _, _, _, _, _, _, z⟩ := z
    exact z.elim
end Pf
/-! part Pe2 -/
set_option Elab.async false
set_option linter.all false
set_option maxRecDepth 100000
set_option maxHeartbeats 2000000
/-! Pe2: the law's start; defs that make lambdas; exceptions' constructors. -/
namespace Pf
open PySem PySem.Spec PyProof.Rows L2
theorem lookup_nodup {α : Type} : ∀ {l : List (Addr × α)}, (l.map (·.1)).Nodup → ∀ p ∈ l, l.lookup p.1 = some p.2
  | [], _, p, h => by simp at h
  | q :: l, hn, p, h => by
    rw [List.map_cons, List.nodup_cons] at hn
    rw [show (q :: l).lookup p.1 = (match p.1 == q.1 with | true => some q.2 | false => l.lookup p.1) from rfl]
    rcases List.mem_cons.mp h with rfl | h
    · rw [beq_self_eq_true]
    · have ne : p.1 ≠ q.1 := fun z => hn.1 (by rw [← z]; exact List.mem_map.mpr ⟨p, h, rfl⟩)
      rw [beq_eq_false_iff_ne.mpr ne]
      exact lookup_nodup hn.2 p h
theorem mem_lookupA {α : Type} {b : Addr} {z : α} : ∀ {l : List (Addr × α)}, l.lookup b = some z → (b, z) ∈ l
  | [], h => by cases h
  | q :: l, h => by
    have h : (match b == q.1 with | true => some q.2 | false => l.lookup b) = some z := h
    cases e : b == q.1 with
    | true =>
      rw [e] at h
      have e1 := eq_of_beq e
      have e2 : q.2 = z := Option.some.inj h
      rw [e1, ← e2]; exact List.mem_cons_self
    | false =>
      rw [e] at h
      exact List.mem_cons_of_mem _ (mem_lookupA h)
theorem law_spT {K : PySem.W.Frag} {T : Tab} {m : FM} {H : Hp} {a : Addr} {ns : List Int} (hT : ∀ p ∈ T.tb, H p.1 = some (.tbl #[])) (hnd : (T.tb.map (·.1)).Nodup) (hS : SqL K H a (ns.map V.int)) (h : ∃ fl out, m [.rol (ns.map D.int)] = .ok fl (.bl true) out) :
    spF K T 1 m [.ref a] H (fun v _ => v = .bl true) fun _ _ _ => False := by
  obtain ⟨fl, out, h⟩ := h
  have nin : ∀ b o, H b = some o → isTb o = false → T.tb.lookup b = none := fun b o e n => by
    cases q : T.tb.lookup b with
    | none => rfl
    | some z =>
      have := hT (b, z) (mem_lookupA q)
      have this : H b = some (.tbl #[]) := this
      rw [e] at this; cases this; cases n
  let G : Hp := fun b => match T.tb.lookup b with
    | some q => some (mkT q)
    | none => match H b with
      | some o => if isTb o = true then none else some o
      | none => none
  have hG : ∀ b o, H b = some o → isTb o = false → G b = some o := fun b o e n => by
    show (match T.tb.lookup b with | some q => some (mkT q) | none => match H b with | some o => if isTb o = true then none else some o | none => none) = some o
    rw [nin b o e n, e]
    show (if isTb o = true then none else some o) = some o
    rw [n]; rfl
  have ex : Exr G H := fun b o e => by
    have e : (match T.tb.lookup b with | some q => some (mkT q) | none => match H b with | some o => if isTb o = true then none else some o | none => none) = some o := e
    cases q : T.tb.lookup b with
    | some z =>
      rw [q] at e
      cases e
      exact .inr (.inr ⟨z, rfl, LamX.TabS.nil (hT (b, z) (mem_lookupA q))⟩)
    | none =>
      rw [q] at e
      dsimp only at e
      cases hb : H b with
      | none => rw [hb] at e; cases e
      | some u =>
        rw [hb] at e
        dsimp only at e
        by_cases ht : isTb u = true
        · rw [if_pos ht] at e; cases e
        · rw [if_neg ht] at e
          cases e
          exact .inl ⟨by simpa using ht, rfl⟩
  have mk : MkT T G := fun p hp => by
    show (match T.tb.lookup p.1 with | some q => some (mkT q) | none => match H p.1 with | some o => if isTb o = true then none else some o | none => none) = _
    rw [lookup_nodup hnd p hp]
  have sq : SqL K G a (ns.map V.int) := by
    rcases hS with (e | ⟨ob, e⟩) | e
    · exact .inl (.inl (hG _ _ e rfl))
    · exact .inl (.inr ⟨ob, hG _ _ e rfl⟩)
    · exact .inr e
  refine ⟨rfl, G, [.rol (ns.map D.int)], ex, mk, RepL.one ⟨a, _, rfl, sq, RepL.map fun _ => rfl⟩, ?_⟩
  rw [h]
  intro G1 H1 v n
  obtain ⟨_, k⟩ := n
  cases fl with
  | false => exact k
  | true => obtain ⟨_, _, _, _, k⟩ := k; exact k.elim
theorem codeA_of {K : PySem.W.Frag} {f : Addr} {oc : Value} {od : Option Addr} {fd : FuncData} {osl : Array (Option Value)} {qual : Str} (lk : K.lookup f = some ⟨oc, od, .func fd, osl⟩) (h : PySem.W.codeIn K fd.code qual = true) : fd.code = .ref (codeA K f) := by
  have e : codeA K f = (match fd.code with | .ref c => c | _ => 0) := by unfold codeA; rw [lk] <;> rfl
  cases q : fd.code with
  | ref c => rw [q] at e; rw [e]
  | _ => rw [q] at h; cases h
section
variable {P : Program} {w : World} {K : PySem.W.Frag} {mg : Str → Option Value} {base : Heap} {x qual : Str} {params : Arguments} {body : List Stmt} {scope : Scope} {dvs : List V} {kws : List (Str × V)} {f : Addr} {fd : FuncData} {T : Tab}
/-- as fn_F, the code object known -/
theorem fn_Fc {N ps : List Str} {k n : Nat} {sf : SF} (F : FunD K x qual params body scope dvs kws f fd) (S : FnScope N ps scope) (hn : n = ps.length)
    (hbody : ∀ (A : Around) (outer : List Env) (s : Shared) (H G : Hp) (E : XK) (mk : MkT T G), Room k (A.deeper (envOfC qual scope s.heap.objs.size f (.ref (codeA K f)))) →
      PSs (cxOf (L2N.CX P w) P w K mg base N qual scope f (.ref (codeA K f)) A outer s H E) body (tS K (b0 K T G H E mk) sf)) : FnOk P w K mg base (L2N.CX P w) (k + 1) f fd ps (spF K T n (mF N.length sf)) := by
  have hpl : ps.length ≤ N.length := by have := congrArg List.length S.pre; rw [List.length_take] at this; omega
  obtain ⟨oc, od, dV, kV, doc, pm, an, cdv, ct, osl, rfl, lk, hcd, _, _⟩ := F.ex
  have ec : cdv = .ref (codeA K f) := codeA_of (fd := PySem.W.fnOf x qual params body scope dV kV doc pm an cdv ct) lk hcd
  subst ec
  refine fn_of lk hcd S (fun vs H Q E h => by rw [h.1, hn]) fun A outer s H vs Q E hr h => ?_
  have hv := h.1
  subst hv
  obtain ⟨G, mk, q⟩ := start_run (N := N) (by rw [hn]; exact hpl) h
  exact ⟨_, hbody A outer s H G E mk hr, q⟩
/-- as fn_I, the code object known -/
theorem fn_Ic {N ps : List Str} {k n : Nat} {sf : SF} (F : FunD K x qual params body scope dvs kws f fd) (S : FnScope N ps scope) (hn : n = ps.length)
    (hbody : ∀ (A : Around) (outer : List Env) (s : Shared) (H G : Hp) (p : Addr) (hp : H p ≠ none) (E : XK) (mk : MkT T G), Room k (A.deeper (envOfC qual scope s.heap.objs.size f (.ref (codeA K f)))) →
      PSs (cxOf (L2N.CX P w) P w K mg base N qual scope f (.ref (codeA K f)) A outer s H E) body (tS K (bI K T G H p hp E mk) sf)) : FnOk P w K mg base (L2N.CX P w) (k + 1) f fd ps (spI K T n (mI N.length sf)) := by
  have hpl : ps.length ≤ N.length := by have := congrArg List.length S.pre; rw [List.length_take] at this; omega
  obtain ⟨oc, od, dV, kV, doc, pm, an, cdv, ct, osl, rfl, lk, hcd, _, _⟩ := F.ex
  have ec : cdv = .ref (codeA K f) := codeA_of (fd := PySem.W.fnOf x qual params body scope dV kV doc pm an cdv ct) lk hcd
  subst ec
  refine fn_of lk hcd S (fun vs H Q E h => by rw [h.1, hn]) fun A outer s H vs Q E hr h => ?_
  have hv := h.1
  subst hv
  obtain ⟨G, p, hp, mk, q⟩ := start_runI (N := N) (by rw [hn]; exact hpl) h
  exact ⟨_, hbody A outer s H G p hp E mk hr, q⟩
end
end Pf
/-! part Pe3 -/
set_option Elab.async false
set_option linter.all false
set_option maxRecDepth 100000
set_option maxHeartbeats 2000000
/-! Pe3: raise of the own exceptions, from the facts. -/
namespace Pf
open PySem PySem.Spec PyProof.Rows L2 NdefX
/-- what the program says: its file, no def named super -/
structure ProgOk (P : Program) (file : Str) : Prop where
  file : ((P.main.file : Str) == file) = true
  top : (P.main.scope.names.lookup ("super" : Str)).isSome = false
section
variable {P : Program} {w : World} {K : PySem.W.Frag} {mg : Str → Option Value} {base : Heap} {T : Tab}
theorem sup_of {x file : Str} {d : DefI} {ar : Arg} {oc kV doc pm ct : Value} {od an : Option Addr} {osl : Array (Option Value)} (pk : ProgOk P file) (oe : OexC K (He.ga K x)) (xi : (Fy.xini x file).ok K = true) (nos : PySem.W.nsIn K mainGlobals "super" = some none) (hx : d.cls = x)
    (lk : K.lookup (d.at_ K) = some ⟨oc, od, .func (PySem.W.fnX d.name d.qual d.params d.body d.scope [("__class__", cellA K (d.at_ K))] .none kV doc pm an (.ref (codeA K (d.at_ K))) ct), osl⟩) (par : (d.params.posonlyargs ++ d.params.args).head? = some ar) :
    SupOk P K (He.ga K x) (d.at_ K) (cellA K (d.at_ K)) (codeA K (d.at_ K)) (PySem.W.fnX d.name d.qual d.params d.body d.scope [("__class__", cellA K (d.at_ K))] .none kV doc pm an (.ref (codeA K (d.at_ K))) ct) ar := by
  subst hx
  obtain ⟨h1, h⟩ := He.ba xi
  obtain ⟨h2, h⟩ := He.ba h
  obtain ⟨h3, h⟩ := He.ba h
  obtain ⟨h4, h⟩ := He.ba h
  obtain ⟨h5, h⟩ := He.ba h
  obtain ⟨h6, h⟩ := He.ba h
  obtain ⟨h7, h8⟩ := He.ba h
  have hf : codeFile K (codeA K (d.at_ K)) file = true := h7
  have hc : cellIs K (cellA K (d.at_ K)) (He.ga K d.cls) = true := h8
  refine ⟨oe, ⟨_, _, _, lk⟩, par, ?_, ?_, of_decide_eq_true h3, He.eqO_ok h4, of_decide_eq_true h5, nos, He.eqO_ok h6, pk.top⟩
  · unfold codeFile at hf
    split at hf
    · rename_i vs _ e
      split at hf
      · rename_i f t e2
        exact ⟨_, _, _, _, f, t, e, e2, by rw [of_decide_eq_true hf]; exact pk.file⟩
      · cases hf
    · cases hf
  · unfold cellIs at hc
    split at hc
    · rename_i C' _ e
      have := of_decide_eq_true hc
      subst this
      exact ⟨_, _, _, e⟩
    · cases hc
theorem FnOk.to {CX : CXT} {k : Nat} {f : Addr} {fd : FuncData} {ps : List Str} {sp sp' : Sp} (F : FnOk P w K mg base CX k f fd ps sp) (h : ∀ vs H Q E, sp' vs H Q E → sp vs H Q E) : FnOk P w K mg base CX k f fd ps sp' :=
  ⟨fun vs H Q E z => F.len vs H Q E (h _ _ _ _ z), fun A outer s H args us vs Q E hr e0 hb r z => F.run A outer s H args us vs Q E hr e0 hb r (h _ _ _ _ z)⟩
/-- an exception whose __init__ says super().__init__('..') and stores its one parameter -/
theorem rais_one {x file f a m : Str} {c j : Nat} {d : DefI} {ar : Arg} {p0 p1 p2 p3 p4 q0 q1 q2 q3 q4 : Pos} {N : List Str} (pk : ProgOk P file) (hC : T.C c = He.ga K x) (hL : T.L c = [f]) (oe : OexC K (He.ga K x)) (no : PySem.W.findIn K (.ref (He.ga K x)) f = some none) (xi : (Fy.xini x file).ok K = true) (nos : PySem.W.nsIn K mainGlobals "super" = some none)
    (hx : d.cls = x) (di : fnI K (d.at_ K) = d.val ∧ d.ok K = true) (par : (d.params.posonlyargs ++ d.params.args).head? = some ar) (hself : ar.arg = ("self" : Str))
    (hb : d.body = [supSt p0 p1 p2 p3 p4 (.Constant (.str m) j q0), .Assign [.Attribute (.Name "self" q1) f q2] (.Name a q3) q4])
    (NS : NScope N [("self" : Str), a] ["__class__"] d.scope) (hks : d.scope.names.lookup ("super" : Str) = some .globalImplicit)
    (hbind : ∀ (cc cda : Addr) (kV doc pm ct : Value) (an : Option Addr) (us : List Value), us.length = 2 → bindArgs (PySem.W.fnX d.name d.qual d.params d.body d.scope [("__class__", cc)] .none kV doc pm an (.ref cda) ct) ⟨us, []⟩ = pure ([("self" : Str), a].zip us))
    (pl : Sem Bool) (hev : ∀ env : Env, eval (.Call (.Attribute (.Call (.Name "super" p0) [] [] p1) "__init__" p2) [.Constant (.str m) j q0] [] p3) env = (do
      let ov ← attributeBase (.Call (.Name "super" p0) [] [] p1) "__init__" env (eval (.Call (.Name "super" p0) [] [] p1) env)
      standAt p2.atName
      let (f, first) ← holding [ov] (getMethod ov "__init__" pl)
      callWith p3 f first (backTo p3 (starEach [.Constant (.str m) j q0] env)) []))
    (hda : (a == ("__debug__" : Str)) = false := by decide) (hca : (a == ("__classdict__" : Str)) = false := by decide) : RaisOk P w K mg base T c [0] 1 := by
  obtain ⟨oc, od, kV, doc, pm, ct, an, osl, lk, hcd⟩ := DefI.lk di.1 di.2
  have S := sup_of (P := P) (ar := ar) pk oe xi nos hx lk par
  have n0 : N[0]? = some ("self" : Str) := by
    have h := congrArg (·[0]?) NS.pre
    simpa [List.getElem?_take] using h
  have n1 : N[1]? = some a := by
    have h := congrArg (·[1]?) NS.pre
    simpa [List.getElem?_take] using h
  have vs0 : d.scope.names.lookup ("self" : Str) = some .local := NS.par _ (by simp)
  have vs1 : d.scope.names.lookup a = some .local := NS.par _ (by simp)
  obtain ⟨h1, h⟩ := He.ba xi
  obtain ⟨h2, h⟩ := He.ba h
  have hat : d.at_ K = He.ma K (He.ga K x) "__init__" := by unfold DefI.at_; rw [hx]
  rw [hb] at S lk hbind
  refine ⟨by rw [hC]; exact oe, by rw [hL]; rfl, fun i hi => by rw [List.mem_singleton.mp hi]; exact Nat.zero_lt_one, d.at_ K, _, [("self" : Str), a], by rw [hC, hat]; exact He.eqO_ok h1, by rw [hat]; exact of_decide_eq_true h2, .all fun us hl => hbind _ _ _ _ _ _ _ us hl, FnOk.to (fn_sup (P := P) (w := w) (mg := mg) (base := base) (k := 0) (N := N) (ps := [("self" : Str), a]) (te := tC (.str m)) (t := tOst K f (tVar 0) (tVar 1)) S hcd NS hks (by rw [hself]; exact vs0) (by rw [hself]; exact n0) (fun A outer s H E => pe_str) (fun vs H Q _ z => z _) (fun A outer s H E => pss_one (ps_ost (pe_var n0 (.inl vs0)) (pe_var n1 (.inl vs1) hda hca))) pl (hev := hev)) fun vs H Q E z => ?_⟩
  · have := ini_one (N := N) (f := f) hL (by rw [hC]; exact oe) (by rw [hC]; exact no) z
    rw [hC] at this
    exact this
end
end Pf
/-! part Pe4 -/
set_option Elab.async false
set_option linter.all false
set_option maxRecDepth 100000
set_option maxHeartbeats 2000000
/-! Pe4: glue for printed walks with handlers and lambdas. -/
namespace Pf
open PySem PySem.Spec PyProof.Rows L2
theorem hu1h {k : Nat} {A : Around} (h : L2H.RoomH k A) : A.units + 1 < cLine := by have := h.un; omega
theorem hu64h {k : Nat} {A : Around} (h : L2H.RoomH k A) : A.units + 64 < cLine := by have := h.un; omega
theorem hu65h {k : Nat} {A : Around} (h : L2H.RoomH k A) : A.units + 65 < cLine := by have := h.un; omega
section
variable {K : PySem.W.Frag} {T : Tab}
theorem XFldOk.hot {nm : Str} {l : List (Nat × Nat)} (h : XFldOk K T nm l) (a dx : Addr) (c : Nat) : XFldOk K (T.hot a dx c) nm l := ⟨h.ok⟩
theorem XIsOk.hot {cn : Cn} {l : List (Nat × Bool)} (h : XIsOk K T cn l) (a dx : Addr) (c : Nat) : XIsOk K (T.hot a dx c) cn l := ⟨fun c' b e => by
  obtain ⟨h1, h2⟩ := h.ok c' b e
  refine ⟨h1, ?_⟩
  cases cn with
  | b n => exact h2
  | o k => exact h2⟩
theorem IsaOk.hot {I : Isa} (h : IsaOk K T I) (a dx : Addr) (c : Nat) : IsaOk K (T.hot a dx c) I := ⟨fun t c' b e => by
  have := h.one t c' b e
  cases t <;> cases c' <;> exact this, fun k c' b e => h.cls k c' b e⟩
theorem xfld_of {nm : Str} {l : List (Nat × Nat)} (h : ∀ x ∈ l, XfC K (T.C x.1) ∧ PySem.W.findIn K (.ref (T.C x.1)) nm = some none ∧ ixF nm (T.L x.1) = some x.2) : XFldOk K T nm l := ⟨fun c i e => by
  have mem : ∀ (l : List (Nat × Nat)) c i, l.lookup c = some i → (c, i) ∈ l := by
    intro l
    induction l with
    | nil => intro c i e; cases e
    | cons q l ih =>
      intro c i e
      have e : (match c == q.1 with | true => some q.2 | false => l.lookup c) = some i := e
      cases hq : c == q.1 with
      | true => rw [hq] at e; have := eq_of_beq hq; subst this; cases e; exact List.mem_cons_self
      | false => rw [hq] at e; exact List.mem_cons_of_mem _ (ih c i e)
  exact h (c, i) (mem l c i e)⟩
theorem xis_of {cn : Cn} {l : List (Nat × Bool)} (h : ∀ x ∈ l, ExcC K (T.C x.1) ∧ PySem.W.kitOne K (.ref (T.C x.1)) (cnV T cn) = some x.2) : XIsOk K T cn l := ⟨fun c b e => by
  have mem : ∀ (l : List (Nat × Bool)) c i, l.lookup c = some i → (c, i) ∈ l := by
    intro l
    induction l with
    | nil => intro c i e; cases e
    | cons q l ih =>
      intro c i e
      have e : (match c == q.1 with | true => some q.2 | false => l.lookup c) = some i := e
      cases hq : c == q.1 with
      | true => rw [hq] at e; have := eq_of_beq hq; subst this; cases e; exact List.mem_cons_self
      | false => rw [hq] at e; exact List.mem_cons_of_mem _ (ih c i e)
  exact h (c, b) (mem l c b e)⟩
/-- the classes that a clause takes -/
def okOf (l : List Nat) : Nat → Bool := fun c => l.contains c
theorem okOf_of {l : List Nat} {cv : Value} (h : ∀ c ∈ l, PySem.W.exmOne K (.ref (T.C c)) cv = some true) : ∀ c, okOf l c = true → PySem.W.exmOne K (.ref (T.C c)) cv = some true := fun c e => h c (by
  unfold okOf at e
  exact List.contains_iff_mem.mp e)
theorem exm_ok {x y : Str} {b : Bool} (h : (He.Fa.exm x y b).ok K = true) : PySem.W.exmOne K (.ref (He.ga K x)) (.ref (He.ga K y)) = some b := of_decide_eq_true h
theorem nos_ok {x : Str} (h : (He.Fa.free x).ok K = true) : PySem.W.nsIn K mainGlobals x = some none := He.eqO_ok h
theorem noat_ok' {x f : Str} (h : (He.Fa.noat x f).ok K = true) : PySem.W.findIn K (.ref (He.ga K x)) f = some none := He.eqO_ok h
end
/-- f(k = e, ..): keywords only -/
theorem pe_fCallK0 {X : Cx} {B : Bs} [xk : XOk X B] {k n n2 : Nat} {f : Addr} {m : FM} {ks : List Str} {g : List D → List D → List D} {gV : List V → List V → List V} {os : List Opd} {x : Str} {kws : List Keyword} {p pos : Pos} (ar : Arr g gV) (F : FnKw X.prog X.w X.K X.mg X.base (L2N.CX X.prog X.w) k f 0 ks gV (spF X.K B.T n m)) (hr : Room k X.A) (hg : Gl X x) (hm : X.mg x = some (.ref f)) (hk : PySem.W.keepIn X.K (.ref f) = true)
    (hkw : PK X kws (tOs X.K B os)) (hn2 : os.length = n2 := by rfl) (hnk : n2 = ks.length := by rfl) (hgl : ∀ vs zs : List V, vs.length = 0 → zs.length = n2 → (gV vs zs).length = n := by intro vs zs h1 h2; match vs, zs, h1, h2 with | [], [_, _], _, _ => rfl)
    (hall : (backToKw pos (keywordEach kws X.env)).all (·.1.isSome) = true := by rfl) (hks : (backToKw pos (keywordEach kws X.env)).filterMap (·.1) = ks := by rfl)
    (hdb : (x == ("__debug__" : Str)) = false := by decide) (hpl : ((backTo pos (starEach [] X.env)).any (·.1) || (backToKw pos (keywordEach kws X.env)).any (·.1.isNone)) = false := by rfl) :
    PE X (.Call (.Name x p) [] kws pos) (tF X.K B (fCallK m g [] os)) :=
  xk.ok.elim fun W h => PE.imp (pe_RK0 h.1 F hr hg hm hk hkw hall hks hdb hpl) fun σ H Q ⟨G, ρ, S, q⟩ => by
    refine tOs_run S ?_
    have q : PostE X.K B G σ Q (match evOs os ρ with
      | .ok hk ρ2 => match vals hk with
        | some es => match m (g [] es) with
          | .ok fl d _ => .ok fl d ρ2
          | .ex x _ => .ex x ρ2
          | .no => .no
        | none => .no
      | .ex x ρ2 => .ex x ρ2
      | .no => .no) := q
    cases h1 : evOs os ρ with
    | ok hs ρ1 =>
      rw [h1] at q
      intro G1 H1 zs e1 S1 k1
      dsimp only at q
      cases h2 : vals hs with
      | none => rw [h2] at q; exact q.elim
      | some es =>
        rw [h2] at q
        have l2 : zs.length = n2 := by rw [k1.len, evOs_len h1, hn2]
        refine ⟨by rw [l2, hnk], hgl [] zs rfl l2, G1, g [] es, S1.ex, S1.tbs, ar.rel (ds := []) (vs := []) rfl (vals_ok k1 h2), ?_⟩
        dsimp only at q
        cases h3 : m (g [] es) with
        | ok fl d out => rw [h3] at q; exact fun G' H' v nw => q G' H' v (e1.trans nw.1.e) (S1.grow nw.1) (nw.val S1)
        | ex x out => rw [h3] at q; exact fun G' H' cls d gr er => h.2 G' H' σ ρ1 x cls d (S1.grow gr) q er
        | no => rw [h3] at q; exact q
    | ex x ρ1 => rw [h1] at q; exact q
    | no => rw [h1] at q; exact q
def sw2 {α : Type} : List α → List α → List α
  | _, [a, b] => [b, a]
  | _, _ => []
theorem arr_sw2 : Arr sw2 sw2 := ⟨fun {K T G ds vs es us} _ h => by
  match es, us, h with
  | [], _, h => cases h; exact rfl
  | [a], _, ⟨v, r, e, h1, h2⟩ => cases h2; subst e; exact rfl
  | [a, b], _, ⟨v, r, e, h1, ⟨v2, r2, e2, h3, h4⟩⟩ => cases h4; subst e2; subst e; exact ⟨_, _, rfl, h3, _, _, rfl, h1, rfl⟩
  | _ :: _ :: _ :: _, _, ⟨v, r, e, h1, ⟨v2, r2, e2, h3, ⟨v3, r3, e3, h5, h6⟩⟩⟩ => subst e3; subst e2; subst e; exact rfl⟩
theorem vals_sw2 : ∀ {vs : List V} {us : List Value} {zs : List V} {ws : List Value}, Vals vs us → Vals zs ws → Vals (sw2 vs zs) (sw2 us ws) := fun {vs us zs ws} _ r => by
  cases r with
  | nil => exact .nil
  | cons a r => cases r with
    | nil => exact .nil
    | cons b r => cases r with
      | nil => exact .cons b (.cons a .nil)
      | cons c r => exact .nil
theorem kbn_sw2 {K : PySem.W.Frag} {x qual : Str} {params : Arguments} {body : List Stmt} {scope : Scope} {kws : List (Str × V)} {f : Addr} {fd : FuncData} {ps : List Str} (F : FunD K x qual params body scope [] kws f fd) {ks : List Str}
    (h : ∀ (kV doc pm : Value) (an : Option Addr) (cdv ct : Value) (us ws : List Value), us.length = 0 → ws.length = ks.length → bindArgs (PySem.W.fnOf x qual params body scope .none kV doc pm an cdv ct) ⟨us, ks.zip ws⟩ = pure (ps.zip (sw2 us ws))) :
    KBn K fd ps 0 ks sw2 sw2 := by
  obtain ⟨oc, od, dV, kV, doc, pm, an, cdv, ct, osl, rfl, lk, hcd, hD, hK⟩ := F.ex
  rcases hD with ⟨_, rfl⟩ | ⟨e, _⟩
  · exact ⟨fun s us ws _ h1 h2 => .of_eq (h kV doc pm an cdv ct us ws h1 h2), vals_sw2⟩
  · exact absurd rfl e
theorem boot_ValueError' : bootBuiltins "ValueError" = some (.type "ValueError") := PyProof.Rows.Boot.«ValueError»
theorem boot_LookupError' : bootBuiltins "LookupError" = some (.type "LookupError") := by decide +kernel
theorem boot_RuntimeError' : bootBuiltins "RuntimeError" = some (.type "RuntimeError") := by decide +kernel
end Pf
/-! part Wk14 -/
set_option Elab.async false
set_option linter.all false
set_option maxRecDepth 100000
set_option maxHeartbeats 4000000
namespace Law_k14
open PySem PySem.Spec PyProof.Rows L2 Pf
noncomputable section
/-! the defs of the row -/
def top (i : Nat) : Stmt := PySem.Challenge.pw_spinspans_k14_traces_beside_power_sums.main.body.getD i (.Pass ⟨0, 0, 0, 0⟩)
def cb (i : Nat) : List Stmt := match top i with
  | .ClassDef _ _ _ b _ _ _ _ _ _ _ => b
  | _ => []
abbrev file : Str := PySem.Challenge.pw_spinspans_k14_traces_beside_power_sums.main.file
def s_columns_of : Stmt := top 34
abbrev N_columns_of : List Str := ["numbers", "column", "number"]
theorem sc_columns_of : FnScope N_columns_of ["numbers"] (defScope s_columns_of) := ⟨rfl, rfl, rfl, by decide +kernel, rfl, by decide +kernel, by decide +kernel⟩
def s_boxes_of : Stmt := top 35
abbrev N_boxes_of : List Str := ["numbers", "row", "number", "column"]
theorem sc_boxes_of : FnScope N_boxes_of ["numbers"] (defScope s_boxes_of) := ⟨rfl, rfl, rfl, by decide +kernel, rfl, by decide +kernel, by decide +kernel⟩
def s_filling_count_of : Stmt := top 37
abbrev N_filling_count_of : List Str := ["numbers", "columns", "product", "row", "column"]
theorem sc_filling_count_of : FnScope N_filling_count_of ["numbers", "columns"] (defScope s_filling_count_of) := ⟨rfl, rfl, rfl, by decide +kernel, rfl, by decide +kernel, by decide +kernel⟩
def s_is_digits : Stmt := top 30
abbrev N_is_digits : List Str := ["word"]
theorem sc_is_digits : FnScope N_is_digits ["word"] (defScope s_is_digits) := ⟨rfl, rfl, rfl, by decide +kernel, rfl, by decide +kernel, by decide +kernel⟩
def s_integers_in : Stmt := top 32
abbrev N_integers_in : List Str := ["text", "word"]
theorem sc_integers_in : FnScope N_integers_in ["text"] (defScope s_integers_in) := ⟨rfl, rfl, rfl, by decide +kernel, rfl, by decide +kernel, by decide +kernel⟩
def s_is_integer : Stmt := top 29
abbrev N_is_integer : List Str := ["thing"]
theorem sc_is_integer : FnScope N_is_integer ["thing"] (defScope s_is_integer) := ⟨rfl, rfl, rfl, by decide +kernel, rfl, by decide +kernel, by decide +kernel⟩
def s_read_numbers : Stmt := top 33
abbrev N_read_numbers : List Str := ["thing", "numbers", "at", "number"]
theorem sc_read_numbers : FnScope N_read_numbers ["thing"] (defScope s_read_numbers) := ⟨rfl, rfl, rfl, by decide +kernel, rfl, by decide +kernel, by decide +kernel⟩
def s_Shape_init : Stmt := (cb 41).getD 0 (.Pass ⟨0, 0, 0, 0⟩)
abbrev N_Shape_init : List Str := ["self", "thing"]
theorem sc_Shape_init : FnScope N_Shape_init ["self", "thing"] (defScope s_Shape_init) := ⟨rfl, rfl, rfl, by decide +kernel, rfl, by decide +kernel, by decide +kernel⟩
def s_degrees_of : Stmt := top 38
abbrev N_degrees_of : List Str := ["numbers", "rows", "longer", "_", "row", "number"]
theorem sc_degrees_of : FnScope N_degrees_of ["numbers", "rows"] (defScope s_degrees_of) := ⟨rfl, rfl, rfl, by decide +kernel, rfl, by decide +kernel, by decide +kernel⟩
def s_trace_of : Stmt := top 43
abbrev N_trace_of : List Str := ["numbers", "kind", "ways", "length", "following", "degrees", "total", "at", "degree", "lower", "passed", "left", "signed", "other"]
theorem sc_trace_of : FnScope N_trace_of ["numbers", "kind"] (defScope s_trace_of) := ⟨rfl, rfl, rfl, by decide +kernel, rfl, by decide +kernel, by decide +kernel⟩
def s_trace : Stmt := top 44
abbrev N_trace : List Str := ["shape", "kind", "outer"]
theorem sc_trace : FnScope N_trace ["shape", "kind"] (defScope s_trace) := ⟨rfl, rfl, rfl, by decide +kernel, rfl, by decide +kernel, by decide +kernel⟩
def s_law_count : Stmt := top 57
abbrev N_law_count : List Str := ["s", "found", "step", "fresh", "one_shape", "i", "less"]
theorem sc_law_count : FnScope N_law_count ["s"] (defScope s_law_count) := ⟨rfl, rfl, rfl, by decide +kernel, rfl, by decide +kernel, by decide +kernel⟩
def s_law_draw : Stmt := top 47
abbrev N_law_draw : List Str := ["jar", "top", "cell", "digit"]
theorem sc_law_draw : FnScope N_law_draw ["jar", "top"] (defScope s_law_draw) := ⟨rfl, rfl, rfl, by decide +kernel, rfl, by decide +kernel, by decide +kernel⟩
def s_law_jar : Stmt := top 46
abbrev N_law_jar : List Str := ["script", "stir", "cell"]
theorem sc_law_jar : FnScope N_law_jar ["script"] (defScope s_law_jar) := ⟨rfl, rfl, rfl, by decide +kernel, rfl, by decide +kernel, by decide +kernel⟩
def s_law_like : Stmt := top 50
abbrev N_law_like : List Str := ["told", "due", "i"]
theorem sc_law_like : FnScope N_law_like ["told", "due"] (defScope s_law_like) := ⟨rfl, rfl, rfl, by decide +kernel, rfl, by decide +kernel, by decide +kernel⟩
def s_law_lists : Stmt := top 55
abbrev N_law_lists : List Str := ["size", "most", "made", "step", "i", "rest"]
theorem sc_law_lists : FnScope N_law_lists ["size", "most"] (defScope s_law_lists) := ⟨rfl, rfl, rfl, by decide +kernel, rfl, by decide +kernel, by decide +kernel⟩
def s_law_pick : Stmt := top 48
abbrev N_law_pick : List Str := ["jar", "menu"]
theorem sc_law_pick : FnScope N_law_pick ["jar", "menu"] (defScope s_law_pick) := ⟨rfl, rfl, rfl, by decide +kernel, rfl, by decide +kernel, by decide +kernel⟩
def s_law_classes : Stmt := top 51
abbrev N_law_classes : List Str := ["error", "marks", "tag", "yes"]
theorem sc_law_classes : FnScope N_law_classes ["error"] (defScope s_law_classes) := ⟨rfl, rfl, rfl, by decide +kernel, rfl, by decide +kernel, by decide +kernel⟩
def s_law_parts_of : Stmt := top 52
abbrev N_law_parts_of : List Str := ["error", "tags", "tag", "above", "parts"]
theorem sc_law_parts_of : FnScope N_law_parts_of ["error"] (defScope s_law_parts_of) := ⟨rfl, rfl, rfl, by decide +kernel, rfl, by decide +kernel, by decide +kernel⟩
def s_law_tried : Stmt := top 53
abbrev N_law_tried : List Str := ["call", "e"]
theorem sc_law_tried : FnScope N_law_tried ["call"] (defScope s_law_tried) := ⟨rfl, rfl, rfl, by decide +kernel, rfl, by decide +kernel, by decide +kernel⟩
def s_law_refused : Stmt := top 54
abbrev N_law_refused : List Str := ["call", "due"]
theorem sc_law_refused : FnScope N_law_refused ["call", "due"] (defScope s_law_refused) := ⟨rfl, rfl, rfl, by decide +kernel, rfl, by decide +kernel, by decide +kernel⟩
def s_law_shape_text : Stmt := top 58
abbrev N_law_shape_text : List Str := ["s", "x"]
theorem sc_law_shape_text : FnScope N_law_shape_text ["s"] (defScope s_law_shape_text) := ⟨rfl, rfl, rfl, by decide +kernel, rfl, by decide +kernel, by decide +kernel⟩
def s_law_shape_in : Stmt := top 59
abbrev N_law_shape_in : List Str := ["jar", "s", "way"]
theorem sc_law_shape_in : FnScope N_law_shape_in ["jar", "s"] (defScope s_law_shape_in) := ⟨rfl, rfl, rfl, by decide +kernel, rfl, by decide +kernel, by decide +kernel⟩
def s_law_mixed : Stmt := top 49
abbrev N_law_mixed : List Str := ["jar", "things", "left", "made", "i"]
theorem sc_law_mixed : FnScope N_law_mixed ["jar", "things"] (defScope s_law_mixed) := ⟨rfl, rfl, rfl, by decide +kernel, rfl, by decide +kernel, by decide +kernel⟩
def s_law_trace : Stmt := top 60
abbrev N_law_trace : List Str := ["s", "cycle", "far", "found", "span_of", "fresh", "spots", "i", "put", "passed", "made", "x"]
theorem sc_law_trace : FnScope N_law_trace ["s", "cycle"] (defScope s_law_trace) := ⟨rfl, rfl, rfl, by decide +kernel, rfl, by decide +kernel, by decide +kernel⟩
def s_law_turned : Stmt := top 56
abbrev N_law_turned : List Str := ["s", "j", "x"]
theorem sc_law_turned : FnScope N_law_turned ["s"] (defScope s_law_turned) := ⟨rfl, rfl, rfl, by decide +kernel, rfl, by decide +kernel, by decide +kernel⟩
def s_law_trace_told : Stmt := top 61
abbrev N_law_trace_told : List Str := ["jar", "s", "cycle", "due", "sign", "turn", "handed", "kept", "x"]
theorem sc_law_trace_told : FnScope N_law_trace_told ["jar", "s", "cycle"] (defScope s_law_trace_told) := ⟨rfl, rfl, rfl, by decide +kernel, rfl, by decide +kernel, by decide +kernel⟩
def s_law : Stmt := top 62
abbrev N_law : List Str := ["script", "jar", "turn", "size", "menu", "s", "step", "ones", "far", "wares", "less", "t", "i"]
theorem sc_law : FnScope N_law ["script"] (defScope s_law) := ⟨rfl, rfl, rfl, by decide +kernel, rfl, by decide +kernel, by decide +kernel⟩
def s_Unlike_init : Stmt := (cb 22).getD 0 (.Pass ⟨0, 0, 0, 0⟩)
def TTC (K : PySem.W.Frag) : Nat → Addr := fun c => match c with
  | 0 => He.ga K "Shape"
  | 1 => He.ga K "Unlike"
  | 2 => He.ga K "BadNumber"
  | 3 => He.ga K "BadPoly"
  | 4 => He.ga K "BadTable"
  | 5 => He.ga K "BadSaying"
  | 6 => He.ga K "BadShape"
  | 7 => He.ga K "BadShuffle"
  | 8 => He.ga K "BadMix"
  | 9 => He.ga K "BadMarks"
  | 10 => He.ga K "BadCrest"
  | 11 => He.ga K "BadField"
  | 12 => He.ga K "BadSpan"
  | 13 => He.ga K "BadCoordinates"
  | 14 => He.ga K "BadEquation"
  | 15 => He.ga K "BadScript"
  | 16 => He.ga K "EqualMarks"
  | 17 => He.ga K "NotTrim"
  | 18 => He.ga K "NotReal"
  | 19 => He.ga K "TooMany"
  | 20 => He.ga K "NoSuch"
  | 21 => He.ga K "Ended"
  | 22 => He.ga K "Unreadable"
  | 23 => He.ga K "Refusal"
  | _ => 0
def TTL : Nat → List Str := fun c => match c with
  | 0 => ["numbers", "size", "columns", "filling_count"]
  | 1 => ["what"]
  | 2 => ["at", "why"]
  | 3 => ["at", "why"]
  | 4 => ["at", "why"]
  | 5 => ["at", "why"]
  | 6 => ["at", "why"]
  | 7 => ["at", "why"]
  | 8 => ["at", "why"]
  | 9 => ["at", "why"]
  | 10 => ["at", "why"]
  | 11 => ["at", "why"]
  | 12 => ["line", "why"]
  | 13 => ["line", "why"]
  | 14 => ["line", "why"]
  | 15 => ["line", "why"]
  | 16 => ["first", "second"]
  | 17 => ["rows"]
  | 18 => ["found"]
  | 19 => ["what", "count"]
  | 20 => ["name"]
  | 21 => ["what"]
  | _ => []
def TT (K : PySem.W.Frag) : Tab := { C := TTC K, L := TTL, tb := [(tabA K (He.ga K "law"), ((envOfC "law" (defScope s_law) 0 0 .none).qual ++ ("<lambda>" : Str)))] }
def isaT : List (Cn × Cn × Bool) := [(.b "NoneType", .o 0, false), (.b "NoneType", .b "bool", false), (.b "NoneType", .b "int", false), (.b "NoneType", .b "list", false), (.b "NoneType", .b "str", false), (.b "NoneType", .b "tuple", false), (.b "bool", .o 0, false), (.b "bool", .b "bool", true), (.b "bool", .b "int", true), (.b "bool", .b "list", false), (.b "bool", .b "str", false), (.b "bool", .b "tuple", false), (.b "int", .o 0, false), (.b "int", .b "bool", false), (.b "int", .b "int", true), (.b "int", .b "list", false), (.b "int", .b "str", false), (.b "int", .b "tuple", false), (.b "str", .o 0, false), (.b "str", .b "bool", false), (.b "str", .b "int", false), (.b "str", .b "list", false), (.b "str", .b "str", true), (.b "str", .b "tuple", false), (.b "tuple", .o 0, false), (.b "tuple", .b "bool", false), (.b "tuple", .b "int", false), (.b "tuple", .b "list", false), (.b "tuple", .b "str", false), (.b "tuple", .b "tuple", true), (.b "list", .o 0, false), (.b "list", .b "bool", false), (.b "list", .b "int", false), (.b "list", .b "list", true), (.b "list", .b "str", false), (.b "list", .b "tuple", false), (.b "dict", .o 0, false), (.b "dict", .b "bool", false), (.b "dict", .b "int", false), (.b "dict", .b "list", false), (.b "dict", .b "str", false), (.b "dict", .b "tuple", false), (.o 0, .o 0, true), (.o 0, .b "bool", false), (.o 0, .b "int", false), (.o 0, .b "list", false), (.o 0, .b "str", false), (.o 0, .b "tuple", false)]
def isa : Isa := isaOf isaT
/-! keyword calls -/
abbrev ar_trace_kind_shape : List D → List D → List D := sw2
abbrev arV_trace_kind_shape : List V → List V → List V := sw2
theorem arr_trace_kind_shape : Arr ar_trace_kind_shape arV_trace_kind_shape := arr_sw2
/-! what they do -/
def w_columns_of : SF := (sSeq (sIf (tPf (p2 prEq (qP (p1 prLenQ (qR 0))) (qC (.int 0)))) (sRet (fPrimV prTup [])) sNx)
    (sRet (fPrim prTuple [(.e (fLcR [1] (iRng [(.e (eP (p2 prSubQ (qR 0) (qC (.int 0)))))]) (.n 1) tYe (fPrim prLenQ [(.e (fLcR [2] (iSeq (eVarR 0)) (.n 2) (tPf (p2 prGt (qR 2) (qR 1))) (eVarR 2)))])))])))
def m_columns_of : FM := mF 3 w_columns_of
def w_boxes_of : SF := (sRet (fLc2R [1, 2, 3] [3] (iEnu2 (eVarR 0)) (.t [(.n 1), (.n 2)]) tYe (iRng [(.v 2)]) (.n 3) tYe (fPrimV prTup [(.e (eVarR 1)), (.e (eVarR 3))])))
def m_boxes_of : FM := mF 4 w_boxes_of
def w_filling_count_of : SF := (sSeq (sAsgR (.n 2) (eC (.int 1)))
    (sSeq (sForR (.t [(.n 3), (.n 4)]) (iSeq (fCall m_boxes_of [(.e (eVarR 0))])) (sAsgR (.n 2) (eP (p2 prMul (qR 2) (qP (p2 prSub (qP (p2 prSub (qP (p2 prAdd (qP (p2 prSub (qP (p2 prSubQ (qR 0) (qR 3))) (qR 4))) (qP (p2 prSubQ (qR 1) (qR 4))))) (qR 3))) (qC (.int 1))))))))
    (sRet (eP (p2 prDiv (qP (p1 prFac (qP (p1 prSum (qR 0))))) (qR 2))))))
def m_filling_count_of : FM := mF 5 w_filling_count_of
def w_is_digits : SF := (sSeq (sIf (tOo (tPf (p2 prEq (qR 0) (qC (.str "")))) (tNo (tTr (.e (fMe isStr prIsdigit (.v 0) []))))) (sRet (eC (.bl false))) sNx)
    (sRet (fOrV (eP (p2 prEq (qR 0) (qC (.str "0")))) (eP (p2 prNe (qP (p2 prSubQ (qR 0) (qC (.int 0)))) (qC (.str "0")))))))
def m_is_digits : FM := mF 1 w_is_digits
def w_integers_in : SF := (sSeq (sIf (tPf (p2 prEq (qR 0) (qC (.str "-")))) (sRet (fPrimV prLst [])) sNx)
    (sRet (fLcR [1] (iSeq (fMe isStr prSplit (.v 0) [(.e (eC (.str " ")))])) (.n 1) tYe (fIf (tTr (.e (fCall m_is_digits [(.e (eVarR 1))]))) (eP (p1 prInt (qR 1))) (eC .non)))))
def m_integers_in : FM := mF 2 w_integers_in
def w_is_integer : SF := (sRet (fAndV (fIs isa [.b "int"] (.v 0)) (fNotV (fIs isa [.b "bool"] (.v 0)))))
def m_is_integer : FM := mF 1 w_is_integer
def w_read_numbers : SF := (sSeq (sIf (tTr (.e (fIs isa [.b "str"] (.v 0)))) (sAsgR (.n 1) (fCall m_integers_in [(.e (eVarR 0))])) (sIf (tTr (.e (fIs isa [.b "list", .b "tuple"] (.v 0)))) (sAsgR (.n 1) (eP (p1 prList (qR 0)))) sNo))
    (sSeq (sForR (.t [(.n 2), (.n 3)]) (iEnu2 (eVarR 1)) (sSeq (sIf (tOo (tNo (tTr (.e (fCall m_is_integer [(.e (eVarR 3))])))) (tPf (p2 prLt (qR 3) (qC (.int 1))))) sNo sNx)
    (sIf (tAn (tPf (p2 prGt (qR 2) (qC (.int 0)))) (tPf (p2 prGt (qR 3) (qP (p2 prSubQ (qR 1) (qP (p2 prSub (qR 2) (qC (.int 1))))))))) sNo sNx)))
    (sRet (eP (p1 prTuple (qR 1))))))
def m_read_numbers : FM := mF 4 w_read_numbers
def w_Shape_init : SF := (sSeq (sIf (tTr (.e (fIs isa [.o 0] (.v 1)))) (sFldS [(0, 0)] 0 (eP (p1 (prFld [(0, 0)]) (qR 1)))) (sFldS [(0, 0)] 0 (fCall m_read_numbers [(.e (eVarR 1))])))
    (sSeq (sFldS [(0, 1)] 0 (eP (p1 prSum (qP (p1 (prFld [(0, 0)]) (qR 0))))))
    (sSeq (sIf (tPf (p2 prGt (qP (p1 (prFld [(0, 1)]) (qR 0))) (qC (.int 12)))) sNo sNx)
    (sSeq (sFldS [(0, 2)] 0 (fCall m_columns_of [(.e (eP (p1 (prFld [(0, 0)]) (qR 0))))]))
    (sFldS [(0, 3)] 0 (fCall m_filling_count_of [(.e (eP (p1 (prFld [(0, 0)]) (qR 0)))), (.e (eP (p1 (prFld [(0, 2)]) (qR 0))))]))))))
def m_Shape_init : FM := mI 2 w_Shape_init
def w_degrees_of : SF := (sSeq (sAsgR (.n 2) (fPrim prAdd [(.e (eP (p1 prList (qR 0)))), (.e (fLcR [3] (iRng [(.e (eP (p2 prSub (qR 1) (qP (p1 prLenQ (qR 0))))))]) (.n 3) tYe (eC (.int 0))))]))
    (sRet (fPrim prTuple [(.e (fLcR [4, 5] (iEnu2 (eVarR 2)) (.t [(.n 4), (.n 5)]) tYe (eP (p2 prSub (qP (p2 prSub (qP (p2 prAdd (qR 5) (qR 1))) (qC (.int 1)))) (qR 4)))))])))
def m_degrees_of : FM := mF 6 w_degrees_of
def w_trace_of : SF := (sSeq (sAsgR (.n 2) (fDisp1 (fCall m_degrees_of [(.e (eVarR 0)), (.e (eP (p1 prLenQ (qR 0))))]) (eC (.int 1))))
    (sSeq (sForR (.n 3) (iSeq (eVarR 1)) (sSeq (sAsgR (.n 4) eD0T)
    (sSeq (sForI (.t [(.n 5), (.n 6)]) 2 (sForR (.t [(.n 7), (.n 8)]) (iEnu2 (eVarR 5)) (sSeq (sAsgR (.n 9) (eP (p2 prSub (qR 8) (qR 3))))
    (sIf (tAn (tPf (p2 prGe (qR 9) (qC (.int 0)))) (tPf (p2 prNin (qR 9) (qR 5)))) (sSeq (sAsgR (.n 10) (fPrim prLenQ [(.e (fLcR [13] (iSeq (eVarR 5)) (.n 13) (tTv (fChain (fun i j => decide (i < j)) (fun i j => decide (i < j)) (.v 9) (.v 13) (.v 8))) (eVarR 13)))]))
    (sSeq (sAsgR (.n 11) (fPrim prAdd [(.e (fPrim prAdd [(.e (fPrim prAdd [(.e (fSl (.v 5) none (some (.v 7)))), (.e (fSl (.v 5) (some (.e (eP (p2 prAdd (qR 7) (qC (.int 1)))))) (some (.e (eP (p2 prAdd (qP (p2 prAdd (qR 7) (qC (.int 1)))) (qR 10)))))))])), (.e (fPrimV prTup [(.e (eVarR 9))]))])), (.e (fSl (.v 5) (some (.e (eP (p2 prAdd (qP (p2 prAdd (qR 7) (qC (.int 1)))) (qR 10))))) none))]))
    (sSeq (sAsgR (.n 12) (fIf (tPf (p2 prEq (qP (p2 prMod (qR 10) (qC (.int 2)))) (qC (.int 0)))) (eVarR 6) (eP (p1 prNeg (qR 6)))))
    (sSet 4 (.v 11) (fPrim prAdd [(.e (fGet (.v 4) (.v 11) (eC (.int 0)))), (.v 12)]))))) sNx))))
    (sAsgR (.n 2) (eVarR 4)))))
    (sRet (fPrim prSum [(.e (fLV (.v 2)))]))))
def m_trace_of : FM := mF 14 w_trace_of
def w_trace : SF := (sSeq (sAsgR (.n 2) (fMake 0 m_Shape_init [(.e (eVarR 0))]))
    (sSeq (sIf (tPf (p2 prNe (qP (p1 prSum (qR 1))) (qP (p1 (prFld [(0, 1)]) (qR 2))))) (sRaise 1 [0] [(.e (eC (.str "size")))]) sNx)
    (sRet (fCall m_trace_of [(.e (eP (p1 (prFld [(0, 0)]) (qR 2)))), (.e (fPrim (prSortS true) [(.v 1)]))]))))
def m_trace : FM := mF 3 w_trace
def w_law_count : SF := (sSeq (sAsgR (.n 1) (fDisp1 (eVarR 0) (eC (.int 1))))
    (sSeq (sForR (.n 2) (iRng [(.e (eP (p1 prSum (qR 0))))]) (sSeq (sAsgR (.n 3) eD0T)
    (sSeq (sForKR (.n 4) 1 (sForR (.n 5) (iRng [(.e (eP (p1 prLenQ (qR 4))))]) (sIf (tOo (tPf (p2 prEq (qR 5) (qP (p2 prSub (qP (p1 prLenQ (qR 4))) (qC (.int 1)))))) (tPf (p2 prLt (qP (p2 prSubQ (qR 4) (qP (p2 prAdd (qR 5) (qC (.int 1)))))) (qP (p2 prSubQ (qR 4) (qR 5)))))) (sSeq (sAsgR (.n 6) (fPrim prAdd [(.e (fPrim prAdd [(.e (fSl (.v 4) none (some (.v 5)))), (.e (fPrimV prTup [(.e (eP (p2 prSub (qP (p2 prSubQ (qR 4) (qR 5))) (qC (.int 1)))))]))])), (.e (fSl (.v 4) (some (.e (eP (p2 prAdd (qR 5) (qC (.int 1)))))) none))]))
    (sSeq (sIf (tPf (p2 prEq (qP (p2 prSubQ (qR 6) (qP (p2 prSub (qP (p1 prLenQ (qR 6))) (qC (.int 1)))))) (qC (.int 0)))) (sAsgR (.n 6) (fSl (.v 6) none (some (.e (eP (p2 prSub (qP (p1 prLenQ (qR 6))) (qC (.int 1)))))))) sNx)
    (sSet 3 (.v 6) (fPrim prAdd [(.e (fGet (.v 3) (.v 6) (eC (.int 0)))), (.e (eP (p2 prSubQ (qR 1) (qR 4))))])))) sNx)))
    (sAsgR (.n 1) (eP (p1 prDict (qR 3)))))))
    (sRet (fPrim prSubQ [(.v 1), (.e (fPrimV prTup []))]))))
def m_law_count : FM := mF 7 w_law_count
def w_law_draw : SF := (sSeq (sSet 0 (.e (eC (.int 5))) (eP (p2 prAdd (qP (p2 prSubQ (qR 0) (qC (.int 5)))) (qC (.int 1)))))
    (sSeq (sIf (tAn (tPf (p2 prEq (qP (p2 prSubQ (qR 0) (qC (.int 3)))) (qC (.int 0)))) (tPf (p2 prLt (qP (p2 prSubQ (qR 0) (qC (.int 1)))) (qP (p1 prLenQ (qP (p2 prSubQ (qR 0) (qC (.int 0))))))))) (sSeq (sAsgR (.n 2) (eP (p2 prSubQ (qP (p2 prSubQ (qR 0) (qC (.int 0)))) (qP (p2 prSubQ (qR 0) (qC (.int 1)))))))
    (sSeq (sSet 0 (.e (eC (.int 1))) (eP (p2 prAdd (qP (p2 prSubQ (qR 0) (qC (.int 1)))) (qC (.int 1)))))
    (sIf (tPf (p2 prGe (qR 2) (qP (p2 prPow (qC (.int 10)) (qC (.int 18)))))) (sSeq (sSet 0 (.e (eC (.int 2))) (eVarR 2))
    (sSet 0 (.e (eC (.int 3))) (eC (.int 60)))) (sSet 0 (.e (eC (.int 4))) (eP (p2 prMod (qP (p1 prInt (qP (p2 prAdd (qP (p2 prAdd (qP (p2 prMul (qP (p2 prSubQ (qR 0) (qC (.int 4)))) (qC (.int 40093)))) (qP (p2 prMul (qP (p2 prMod (qP (p1 prInt (qR 2))) (qC (.int 2147483549)))) (qC (.int 7919)))))) (qC (.int 97)))))) (qC (.int 2147483579)))))))) sNx)
    (sSeq (sIf (tPf (p2 prGt (qP (p2 prSubQ (qR 0) (qC (.int 3)))) (qC (.int 0)))) (sSeq (sAsgR (.n 3) (eP (p2 prMod (qP (p1 prInt (qP (p2 prSubQ (qR 0) (qC (.int 2)))))) (qR 1))))
    (sSeq (sSet 0 (.e (eC (.int 2))) (eP (p2 prDiv (qP (p2 prSubQ (qR 0) (qC (.int 2)))) (qR 1))))
    (sSeq (sSet 0 (.e (eC (.int 3))) (fIf (tPf (p2 prGt (qP (p2 prSubQ (qR 0) (qC (.int 2)))) (qC (.int 0)))) (eP (p2 prSub (qP (p2 prSubQ (qR 0) (qC (.int 3)))) (qC (.int 1)))) (eC (.int 0))))
    (sRetVR 3)))) sNx)
    (sSeq (sSet 0 (.e (eC (.int 4))) (eP (p2 prMod (qP (p1 prInt (qP (p2 prAdd (qP (p2 prAdd (qP (p2 prPow (qP (p2 prSubQ (qR 0) (qC (.int 4)))) (qC (.int 3)))) (qP (p2 prMul (qP (p2 prSubQ (qR 0) (qC (.int 5)))) (qC (.int 1299709)))))) (qC (.int 104729)))))) (qC (.int 2147483579)))))
    (sRet (eP (p2 prMod (qP (p1 prInt (qP (p2 prAdd (qP (p2 prDiv (qP (p2 prSubQ (qR 0) (qC (.int 4)))) (qC (.int 61)))) (qP (p2 prMul (qP (p2 prMod (qP (p1 prInt (qP (p2 prSubQ (qR 0) (qC (.int 4)))))) (qC (.int 6007)))) (qC (.int 71)))))))) (qR 1))))))))
def m_law_draw : FM := mI 4 w_law_draw
def w_law_jar : SF := (sSeq (sAsgR (.n 1) (eC (.int 19607)))
    (sSeq (sForR (.n 2) (iSeq (fSl (.v 0) none (some (.e (eC (.int 63)))))) (sAsgR (.n 1) (eP (p2 prMod (qP (p1 prInt (qP (p2 prAdd (qP (p2 prAdd (qP (p2 prMul (qR 1) (qC (.int 48017)))) (qP (p2 prMod (qP (p1 prInt (qR 2))) (qC (.int 2147483549)))))) (qC (.int 1709)))))) (qC (.int 2147483579))))))
    (sRet (fPrimV prLst [(.e (fPrim prList [(.e (fSl (.v 0) none (some (.e (eC (.int 63))))))])), (.e (eC (.int 0))), (.e (eC (.int 0))), (.e (eC (.int 0))), (.e (eVarR 1)), (.e (eC (.int 0)))]))))
def m_law_jar : FM := mF 3 w_law_jar
def w_law_like (rc : FM) : SF := (sSeq (sIf (tTr (.e (fIs isa [.b "bool"] (.v 1)))) (sRet (fAndV (fIs isa [.b "bool"] (.v 0)) (eP (p2 prEq (qR 0) (qR 1))))) sNx)
    (sSeq (sIf (tTr (.e (fIs isa [.b "int"] (.v 1)))) (sRet (fAndV (fIs isa [.b "int"] (.v 0)) (fAndV (fNotV (fIs isa [.b "bool"] (.v 0))) (eP (p2 prEq (qR 0) (qR 1)))))) sNx)
    (sSeq (sIf (tTr (.e (fIs isa [.b "str"] (.v 1)))) (sRet (fAndV (fIs isa [.b "str"] (.v 0)) (eP (p2 prEq (qR 0) (qR 1))))) sNx)
    (sSeq (sIf (tOo (tTr (.e (fIs isa [.b "list"] (.v 1)))) (tTr (.e (fIs isa [.b "tuple"] (.v 1))))) (sSeq (sIf (tOo (tTv (fPrim prNe [(.e (fIs isa [.b "list"] (.v 0))), (.e (fIs isa [.b "list"] (.v 1)))])) (tOo (tTv (fPrim prNe [(.e (fIs isa [.b "tuple"] (.v 0))), (.e (fIs isa [.b "tuple"] (.v 1)))])) (tPf (p2 prNe (qP (p1 prLenQ (qR 0))) (qP (p1 prLenQ (qR 1))))))) (sRet (eC (.bl false))) sNx)
    (sSeq (sForR (.n 2) (iRng [(.e (eP (p1 prLenQ (qR 1))))]) (sIf (tNo (tTr (.e (fCall rc [(.e (eP (p2 prSubQ (qR 0) (qR 2)))), (.e (eP (p2 prSubQ (qR 1) (qR 2))))])))) (sRet (eC (.bl false))) sNx))
    (sRet (eC (.bl true))))) sNx)
    (sRet (fAndV (eP (p1 prIsN (qR 1))) (eP (p1 prIsN (qR 0)))))))))
def m_law_like : Nat → FM
  | 0 => fun _ => .no
  | n + 1 => mF 3 (w_law_like (m_law_like n))
def w_law_lists (rc : FM) : SF := (sSeq (sIf (tPf (p2 prEq (qR 0) (qC (.int 0)))) (sRet (fPrimV prLst [(.e (fPrimV prTup []))])) sNx)
    (sSeq (sAsgR (.n 2) (fPrimV prLst []))
    (sSeq (sForR (.n 3) (iRng [(.e (eP (p2 prMin2 (qR 0) (qR 1))))]) (sSeq (sAsgR (.n 4) (eP (p2 prSub (qP (p2 prMin2 (qR 0) (qR 1))) (qR 3))))
    (sForR (.n 5) (iSeq (fCall rc [(.e (eP (p2 prSub (qR 0) (qR 4)))), (.e (eVarR 4))])) (sDrop (fMutR isLst muAppend 2 [(.e (fPrim prAdd [(.e (fPrimV prTup [(.e (eVarR 4))])), (.v 5)]))])))))
    (sRetVR 2))))
def m_law_lists : Nat → FM
  | 0 => fun _ => .no
  | n + 1 => mF 6 (w_law_lists (m_law_lists n))
def w_law_pick : SF := (sRet (fPrim prSubQ [(.v 1), (.e (fCallI m_law_draw 0 [(.e (eP (p1 prLenQ (qR 1))))]))]))
def m_law_pick : FM := mI 2 w_law_pick
def w_law_classes : SF := (sSeq (sAsgR (.n 1) (fPrimV prLst [(.e (fPrimV prTup [(.e (eC (.str "BadNumber"))), (.e (fIsX [(1, false)] (.v 0)))])), (.e (fPrimV prTup [(.e (eC (.str "BadPoly"))), (.e (fIsX [(1, false)] (.v 0)))])), (.e (fPrimV prTup [(.e (eC (.str "BadTable"))), (.e (fIsX [(1, false)] (.v 0)))])), (.e (fPrimV prTup [(.e (eC (.str "BadSaying"))), (.e (fIsX [(1, false)] (.v 0)))])), (.e (fPrimV prTup [(.e (eC (.str "BadShape"))), (.e (fIsX [(1, false)] (.v 0)))])), (.e (fPrimV prTup [(.e (eC (.str "BadShuffle"))), (.e (fIsX [(1, false)] (.v 0)))])), (.e (fPrimV prTup [(.e (eC (.str "BadMix"))), (.e (fIsX [(1, false)] (.v 0)))])), (.e (fPrimV prTup [(.e (eC (.str "BadMarks"))), (.e (fIsX [(1, false)] (.v 0)))])), (.e (fPrimV prTup [(.e (eC (.str "BadCrest"))), (.e (fIsX [(1, false)] (.v 0)))])), (.e (fPrimV prTup [(.e (eC (.str "BadField"))), (.e (fIsX [(1, false)] (.v 0)))])), (.e (fPrimV prTup [(.e (eC (.str "BadSpan"))), (.e (fIsX [(1, false)] (.v 0)))])), (.e (fPrimV prTup [(.e (eC (.str "BadCoordinates"))), (.e (fIsX [(1, false)] (.v 0)))])), (.e (fPrimV prTup [(.e (eC (.str "BadEquation"))), (.e (fIsX [(1, false)] (.v 0)))])), (.e (fPrimV prTup [(.e (eC (.str "BadScript"))), (.e (fIsX [(1, false)] (.v 0)))])), (.e (fPrimV prTup [(.e (eC (.str "EqualMarks"))), (.e (fIsX [(1, false)] (.v 0)))])), (.e (fPrimV prTup [(.e (eC (.str "NotTrim"))), (.e (fIsX [(1, false)] (.v 0)))])), (.e (fPrimV prTup [(.e (eC (.str "NotReal"))), (.e (fIsX [(1, false)] (.v 0)))])), (.e (fPrimV prTup [(.e (eC (.str "Unlike"))), (.e (fIsX [(1, true)] (.v 0)))])), (.e (fPrimV prTup [(.e (eC (.str "TooMany"))), (.e (fIsX [(1, false)] (.v 0)))])), (.e (fPrimV prTup [(.e (eC (.str "NoSuch"))), (.e (fIsX [(1, false)] (.v 0)))])), (.e (fPrimV prTup [(.e (eC (.str "Ended"))), (.e (fIsX [(1, false)] (.v 0)))])), (.e (fPrimV prTup [(.e (eC (.str "Unreadable"))), (.e (fIsX [(1, false)] (.v 0)))])), (.e (fPrimV prTup [(.e (eC (.str "Refusal"))), (.e (fIsX [(1, true)] (.v 0)))])), (.e (fPrimV prTup [(.e (eC (.str "ValueError"))), (.e (fIsX [(1, true)] (.v 0)))])), (.e (fPrimV prTup [(.e (eC (.str "LookupError"))), (.e (fIsX [(1, false)] (.v 0)))])), (.e (fPrimV prTup [(.e (eC (.str "RuntimeError"))), (.e (fIsX [(1, false)] (.v 0)))]))]))
    (sRet (fLc [2, 3] (iSeqL (eVarR 1)) (.t [(.n 2), (.n 3)]) (tTr (.v 3)) (eVarR 2))))
def m_law_classes : FM := mF 4 w_law_classes
def w_law_parts_of : SF := (sSeq (sAsgR (.n 1) (fCall m_law_classes [(.e (eVarR 0))]))
    (sSeq (sAsgR (.n 2) (eP (p2 prSubQ (qR 1) (qC (.int 0)))))
    (sSeq (sAsgR (.n 3) (fPrimV prLst [(.e (eC (.str "Refusal"))), (.e (eC (.str "ValueError")))]))
    (sSeq (sIf (tTv (fPrim prIn [(.v 2), (.e (fPrimV prLst [(.e (eC (.str "BadSpan"))), (.e (eC (.str "BadCoordinates"))), (.e (eC (.str "BadEquation"))), (.e (eC (.str "BadScript")))]))])) (sAsgR (.n 4) (fPrimV prLst [(.e (fXf [] (.v 0)))])) (sIf (tTv (fPrim prEq [(.e (fSl (.v 2) none (some (.e (eC (.int 3)))))), (.e (eC (.str "Bad")))])) (sAsgR (.n 4) (fPrimV prLst [(.e (fXf [] (.v 0)))])) (sIf (tPf (p2 prEq (qR 2) (qC (.str "EqualMarks")))) (sAsgR (.n 4) (fPrimV prLst [(.e (fXf [] (.v 0))), (.e (fXf [] (.v 0)))])) (sIf (tPf (p2 prEq (qR 2) (qC (.str "NotTrim")))) (sAsgR (.n 4) (fPrimV prLst [(.e (fXf [] (.v 0)))])) (sIf (tPf (p2 prEq (qR 2) (qC (.str "NotReal")))) (sAsgR (.n 4) (fPrimV prLst [(.e (fXf [] (.v 0)))])) (sIf (tPf (p2 prEq (qR 2) (qC (.str "TooMany")))) (sAsgR (.n 4) (fPrimV prLst [(.e (fXf [(1, 0)] (.v 0))), (.e (fXf [] (.v 0)))])) (sIf (tPf (p2 prEq (qR 2) (qC (.str "NoSuch")))) (sSeq (sAsgR (.n 4) (fPrimV prLst [(.e (fXf [] (.v 0)))]))
    (sAsgR (.n 3) (fPrimV prLst [(.e (eC (.str "LookupError")))]))) (sIf (tTv (fPrim prIn [(.v 2), (.e (fPrimV prLst [(.e (eC (.str "Unlike"))), (.e (eC (.str "Ended")))]))])) (sAsgR (.n 4) (fPrimV prLst [(.e (fXf [(1, 0)] (.v 0)))])) (sAsgR (.n 4) (fPrimV prLst [(.e (eC (.str "no error of the package")))]))))))))))
    (sSeq (sIf (tPf (p2 prEq (qR 2) (qC (.str "Ended")))) (sAsgR (.n 3) (fPrimV prLst [(.e (eC (.str "RuntimeError")))])) sNx)
    (sSeq (sIf (tTv (fPrim prEq [(.e (fSl (.v 2) none (some (.e (eC (.int 3)))))), (.e (eC (.str "Bad")))])) (sSeq (sAsgR (.n 3) (fPrimV prLst [(.e (eC (.str "Unreadable"))), (.e (eC (.str "Refusal"))), (.e (eC (.str "ValueError")))]))
    (sIf (tOo (tNo (tTr (.e (fIs isa [.b "str"] (.e (fXf [] (.v 0))))))) (tTv (fPrim prEq [(.e (fXf [] (.v 0))), (.e (eC (.str "")))]))) (sRet (fPrimV prLst [(.e (eC (.str "without a reason")))])) sNx)) sNx)
    (sRet (fIf (tTv (fPrim prEq [(.e (fSl (.v 1) (some (.e (eC (.int 1)))) none)), (.v 3)])) (fPrim prAdd [(.e (fPrimV prLst [(.e (eVarR 2))])), (.v 4)]) (fPrimV prLst [(.e (eC (.str "of other classes")))])))))))))
def m_law_parts_of : FM := mF 5 w_law_parts_of
def w_law_tried (r : FR) : SF := (sTryF (sRet (fPrimV prLst [(.e (eC (.str "fine"))), (.e (fLamC r 0))])) (okOf [1]) 1 m_law_parts_of)
def m_law_tried : FR → FM := fun r => mF 2 (w_law_tried r)
def w_law_refused (r : FR) : SF := (sRet (fCall (pM (m_law_like 4)) [(.e (fCall (m_law_tried r) [(.e (eVarR 0))])), (.e (eVarR 1))]))
def m_law_refused : FR → FM := fun r => mF 2 (w_law_refused r)
def w_law_shape_text : SF := (sRet (fIf (tTv (fPrim prNe [(.v 0), (.e (fPrimV prTup []))])) (fMe isStr prJoin (.e (eC (.str " "))) [(.e (fLcR [1] (iSeq (eVarR 0)) (.n 1) tYe (eP (p1 prStr (qR 1)))))]) (eC (.str "-"))))
def m_law_shape_text : FM := mF 2 w_law_shape_text
def w_law_shape_in : SF := (sSeq (sAsgR (.n 2) (fCallI m_law_draw 0 [(.e (eC (.int 5)))]))
    (sSeq (sIf (tPf (p2 prEq (qR 2) (qC (.int 0)))) (sRet (fCall m_law_shape_text [(.e (eVarR 1))])) sNx)
    (sSeq (sIf (tPf (p2 prEq (qR 2) (qC (.int 1)))) (sRet (eP (p1 prList (qR 1)))) sNx)
    (sSeq (sIf (tPf (p2 prEq (qR 2) (qC (.int 2)))) (sRet (eP (p1 prTuple (qR 1)))) sNx)
    (sRet (fIf (tPf (p2 prEq (qR 2) (qC (.int 3)))) (fMake 0 m_Shape_init [(.e (fCall m_law_shape_text [(.e (eVarR 1))]))]) (fMake 0 m_Shape_init [(.e (eP (p1 prList (qR 1))))])))))))
def m_law_shape_in : FM := mI 3 w_law_shape_in
def w_law_mixed : SF := (sSeq (sAsgR (.n 2) (eP (p1 prList (qR 1))))
    (sSeq (sAsgR (.n 3) (fPrimV prLst []))
    (sSeq (sForR (.n 4) (iRng [(.e (eP (p1 prLenQ (qR 1))))]) (sDrop (fMutR isLst muAppend 3 [(.e (fMutR isLst muPop 2 [(.e (fCallI m_law_draw 0 [(.e (eP (p1 prLenQ (qR 2))))]))]))])))
    (sRetVR 3))))
def m_law_mixed : FM := mI 5 w_law_mixed
def w_law_trace : SF := (sSeq (sAsgR (.n 2) (eP (p2 prMax2 (qC (.int 1)) (qP (p1 prLenQ (qR 0))))))
    (sSeq (sAsgR (.n 3) (fDisp1 (fPrim prTuple [(.e (fLcR [7] (iRng [(.v 2)]) (.n 7) tYe (eP (p2 prSub (qP (p2 prSub (qR 2) (qC (.int 1)))) (qR 7)))))]) (eC (.int 1))))
    (sSeq (sForR (.n 4) (iSeq (eVarR 1)) (sSeq (sAsgR (.n 5) eD0T)
    (sSeq (sForKR (.n 6) 3 (sForR (.n 7) (iRng [(.v 2)]) (sSeq (sAsgR (.n 8) (eP (p2 prAdd (qP (p2 prSubQ (qR 6) (qR 7))) (qR 4))))
    (sIf (tPf (p2 prNin (qR 8) (qR 6))) (sSeq (sAsgR (.n 9) (fPrim prLenQ [(.e (fLcR [11] (iSeq (eVarR 6)) (.n 11) (tAn (tPf (p2 prLt (qP (p2 prSubQ (qR 6) (qR 7))) (qR 11))) (tPf (p2 prLt (qR 11) (qR 8)))) (eVarR 11)))]))
    (sSeq (sAsgR (.n 10) (fPrim prTuple [(.e (fPrim (prSortS true) [(.e (fPrim prAdd [(.e (fPrim prAdd [(.e (fSl (.v 6) none (some (.v 7)))), (.e (fPrimV prTup [(.e (eVarR 8))]))])), (.e (fSl (.v 6) (some (.e (eP (p2 prAdd (qR 7) (qC (.int 1)))))) none))]))]))]))
    (sSet 5 (.v 10) (fPrim prAdd [(.e (fGet (.v 5) (.v 10) (eC (.int 0)))), (.e (eP (p2 prMul (qP (p2 prSubQ (qR 3) (qR 6))) (qP (p2 prSub (qC (.int 1)) (qP (p2 prMul (qC (.int 2)) (qP (p2 prMod (qP (p1 prInt (qR 9))) (qC (.int 2)))))))))))])))) sNx))))
    (sAsgR (.n 3) (eP (p1 prDict (qR 5)))))))
    (sRet (fGet (.v 3) (.e (fPrim prTuple [(.e (fLcR [7] (iRng [(.v 2)]) (.n 7) tYe (fPrim prSub [(.e (fPrim prSub [(.e (fPrim prAdd [(.e (fIf (tPf (p2 prLt (qR 7) (qP (p1 prLenQ (qR 0))))) (eP (p2 prSubQ (qR 0) (qR 7))) (eC (.int 0)))), (.v 2)])), (.e (eC (.int 1)))])), (.v 7)])))])) (eC (.int 0)))))))
def m_law_trace : FM := mF 12 w_law_trace
def w_law_turned : SF := (sRet (fIf (tTv (fPrim prNe [(.v 0), (.e (fPrimV prTup []))])) (fPrim prTuple [(.e (fLcR [1] (iRng [(.e (eP (p2 prSubQ (qR 0) (qC (.int 0)))))]) (.n 1) tYe (fPrim prLenQ [(.e (fLcR [2] (iSeq (eVarR 0)) (.n 2) (tPf (p2 prGt (qR 2) (qR 1))) (eVarR 2)))])))]) (fPrimV prTup [])))
def m_law_turned : FM := mF 3 w_law_turned
def w_law_trace_told : SF := (sSeq (sAsgR (.n 3) (fCall m_law_trace [(.e (eVarR 1)), (.e (eVarR 2))]))
    (sSeq (sAsgR (.n 4) (fIf (tTv (fPrim prEq [(.e (fPrim prMod [(.e (fPrim prInt [(.e (fPrim prLenQ [(.e (fLcR [8] (iSeq (eVarR 2)) (.n 8) (tPf (p2 prEq (qP (p2 prMod (qP (p1 prInt (qR 8))) (qC (.int 2)))) (qC (.int 0)))) (eVarR 8)))]))])), (.e (eC (.int 2)))])), (.e (eC (.int 0)))])) (eC (.int 1)) (eP (p2 prSub (qC (.int 0)) (qC (.int 1))))))
    (sSeq (sForR (.n 5) (iRng [(.e (eC (.int 2)))]) (sSeq (sAsgR (.n 6) (fCallI m_law_mixed 0 [(.e (eP (p1 prList (qR 2))))]))
    (sSeq (sAsgR (.n 7) (eP (p1 prList (qR 6))))
    (sSeq (sIf (tOo (tNo (tTr (.e (fCall (m_law_like 4) [(.e (fCall m_trace [(.e (fCallI m_law_shape_in 0 [(.e (eVarR 1))])), (.e (eVarR 6))])), (.e (eVarR 3))])))) (tOo (tNo (tTr (.e (fCall (m_law_like 4) [(.e (fCall m_trace [(.e (fCallI m_law_shape_in 0 [(.e (eVarR 1))])), (.e (eP (p1 prTuple (qR 6))))])), (.e (eVarR 3))])))) (tPf (p2 prNe (qR 6) (qR 7))))) (sRet (eC (.bl false))) sNx)
    (sIf (tNo (tTr (.e (fCall (m_law_like 4) [(.e (fCallK m_trace ar_trace_kind_shape [] [(.e (eVarR 6)), (.e (fCallI m_law_shape_in 0 [(.e (fCall m_law_turned [(.e (eVarR 1))]))]))])), (.e (eP (p2 prMul (qR 3) (qR 4))))])))) (sRet (eC (.bl false))) sNx)))))
    (sRet (eC (.bl true))))))
def m_law_trace_told : FM := mI 9 w_law_trace_told
def w_law : SF := (sSeq (sAsgR (.n 1) (fCall m_law_jar [(.e (eVarR 0))]))
    (sSeq (sForR (.n 2) (iRng [(.e (eC (.int 4)))]) (sSeq (sAsgR (.n 3) (fIf (tTv (fPrim prEq [(.e (fCallI m_law_draw 1 [(.e (eC (.int 6)))])), (.e (eC (.int 0)))])) (fPrim prAdd [(.e (eC (.int 7))), (.e (fCallI m_law_draw 1 [(.e (eC (.int 6)))]))]) (fCallI m_law_draw 1 [(.e (eC (.int 7)))])))
    (sSeq (sAsgR (.n 4) (fLcR [11] (iSeq (fCall (m_law_lists 14) [(.e (eVarR 3)), (.e (eVarR 3))])) (.n 11) (tOo (tPf (p2 prLt (qR 3) (qC (.int 9)))) (tPf (p2 prLt (qP (p1 prLenQ (qR 11))) (qC (.int 5))))) (eVarR 11)))
    (sSeq (sAsgR (.n 5) (fCallI m_law_pick 1 [(.e (fCall (m_law_lists 14) [(.e (eVarR 3)), (.e (eVarR 3))]))]))
    (sSeq (sForR (.n 6) (iRng [(.e (eC (.int 3)))]) (sIf (tNo (tTr (.e (fCallI m_law_trace_told 1 [(.e (eVarR 5)), (.e (fCallI m_law_pick 1 [(.e (eVarR 4))]))])))) (sRet (eC (.bl false))) sNx))
    (sSeq (sAsgR (.n 7) (fPrim prTuple [(.e (fLcR [12] (iRng [(.v 3)]) (.n 12) tYe (eC (.int 1))))]))
    (sSeq (sIf (tAn (tPf (p2 prLt (qR 3) (qC (.int 9)))) (tOo (tNo (tTr (.e (fCallI m_law_trace_told 1 [(.e (eVarR 5)), (.e (eVarR 7))])))) (tNo (tTr (.e (fCall (m_law_like 4) [(.e (fCall m_trace [(.e (fCallI m_law_shape_in 1 [(.e (eVarR 5))])), (.e (eP (p1 prList (qR 7))))])), (.e (fCall m_law_count [(.e (eVarR 5))]))])))))) (sRet (eC (.bl false))) sNx)
    (sSeq (sAsgR (.n 8) (fPrim prAdd [(.e (fPrim prList [(.e (fCallI m_law_pick 1 [(.e (eVarR 4))]))])), (.e (fPrimV prLst [(.e (fPrim prAdd [(.e (eC (.int 1))), (.e (fCallI m_law_draw 1 [(.e (eC (.int 3)))]))]))]))]))
    (sSeq (sAsgR (.n 9) (fCallI m_law_shape_in 1 [(.e (eVarR 5))]))
    (sSeq (sIf (tNo (tTr (.e (fGive [8, 9] (fCall m_trace [(.e (eVarR 9)), (.e (eVarR 8))]) m_law_refused [(.e (fPrimV prLst [(.e (eC (.str "Unlike"))), (.e (eC (.str "size")))]))])))) (sRet (eC (.bl false))) sNx)
    (sSeq (sAsgR (.n 10) (fSl (.v 8) (some (.e (eC (.int 1)))) none))
    (sIf (tAn (tPf (p2 prNe (qP (p1 prSum (qR 10))) (qR 3))) (tNo (tTr (.e (fGive [9, 10] (fCall m_trace [(.e (eVarR 9)), (.e (eVarR 10))]) m_law_refused [(.e (fPrimV prLst [(.e (eC (.str "Unlike"))), (.e (eC (.str "size")))]))]))))) (sRet (eC (.bl false))) sNx))))))))))))
    (sRet (fAndV (fCall (m_law_like 4) [(.e (fCall m_trace [(.e (eC (.str "-"))), (.e (fPrimV prLst []))])), (.e (eC (.int 1)))]) (fCall (m_law_like 4) [(.e (fCall m_trace [(.e (eC (.str "1"))), (.e (fPrimV prLst [(.e (eC (.int 1)))]))])), (.e (eC (.int 1)))])))))
def m_law : FM := mF 13 w_law
/-! facts -/
structure Fs (P : Program) (w : World) (K : PySem.W.Frag) (mg : Str → Option Value) (base : Heap) : Prop where
  b_factorial : mg "factorial" = some (.builtin "math.factorial")
  d_Shape_init : ∃ fd, FunD K "__init__" "Shape.__init__" (defArgs s_Shape_init) (defBody s_Shape_init) (defScope s_Shape_init) [] [] (He.ma K (He.ga K "Shape") "__init__") fd
  d_boxes_of : ∃ fd, FunD K "boxes_of" "boxes_of" (defArgs s_boxes_of) (defBody s_boxes_of) (defScope s_boxes_of) [] [] (He.ga K "boxes_of") fd
  d_columns_of : ∃ fd, FunD K "columns_of" "columns_of" (defArgs s_columns_of) (defBody s_columns_of) (defScope s_columns_of) [] [] (He.ga K "columns_of") fd
  d_degrees_of : ∃ fd, FunD K "degrees_of" "degrees_of" (defArgs s_degrees_of) (defBody s_degrees_of) (defScope s_degrees_of) [] [] (He.ga K "degrees_of") fd
  d_filling_count_of : ∃ fd, FunD K "filling_count_of" "filling_count_of" (defArgs s_filling_count_of) (defBody s_filling_count_of) (defScope s_filling_count_of) [] [] (He.ga K "filling_count_of") fd
  d_integers_in : ∃ fd, FunD K "integers_in" "integers_in" (defArgs s_integers_in) (defBody s_integers_in) (defScope s_integers_in) [] [] (He.ga K "integers_in") fd
  d_is_digits : ∃ fd, FunD K "is_digits" "is_digits" (defArgs s_is_digits) (defBody s_is_digits) (defScope s_is_digits) [] [] (He.ga K "is_digits") fd
  d_is_integer : ∃ fd, FunD K "is_integer" "is_integer" (defArgs s_is_integer) (defBody s_is_integer) (defScope s_is_integer) [] [] (He.ga K "is_integer") fd
  d_law : ∃ fd, FunD K "law" "law" (defArgs s_law) (defBody s_law) (defScope s_law) [] [] (He.ga K "law") fd
  d_law_classes : ∃ fd, FunD K "_law_classes" "_law_classes" (defArgs s_law_classes) (defBody s_law_classes) (defScope s_law_classes) [] [] (He.ga K "_law_classes") fd
  d_law_count : ∃ fd, FunD K "_law_count" "_law_count" (defArgs s_law_count) (defBody s_law_count) (defScope s_law_count) [] [] (He.ga K "_law_count") fd
  d_law_draw : ∃ fd, FunD K "_law_draw" "_law_draw" (defArgs s_law_draw) (defBody s_law_draw) (defScope s_law_draw) [] [] (He.ga K "_law_draw") fd
  d_law_jar : ∃ fd, FunD K "_law_jar" "_law_jar" (defArgs s_law_jar) (defBody s_law_jar) (defScope s_law_jar) [] [] (He.ga K "_law_jar") fd
  d_law_like : ∃ fd, FunD K "_law_like" "_law_like" (defArgs s_law_like) (defBody s_law_like) (defScope s_law_like) [] [] (He.ga K "_law_like") fd
  d_law_lists : ∃ fd, FunD K "_law_lists" "_law_lists" (defArgs s_law_lists) (defBody s_law_lists) (defScope s_law_lists) [] [] (He.ga K "_law_lists") fd
  d_law_mixed : ∃ fd, FunD K "_law_mixed" "_law_mixed" (defArgs s_law_mixed) (defBody s_law_mixed) (defScope s_law_mixed) [] [] (He.ga K "_law_mixed") fd
  d_law_parts_of : ∃ fd, FunD K "_law_parts_of" "_law_parts_of" (defArgs s_law_parts_of) (defBody s_law_parts_of) (defScope s_law_parts_of) [] [] (He.ga K "_law_parts_of") fd
  d_law_pick : ∃ fd, FunD K "_law_pick" "_law_pick" (defArgs s_law_pick) (defBody s_law_pick) (defScope s_law_pick) [] [] (He.ga K "_law_pick") fd
  d_law_refused : ∃ fd, FunD K "_law_refused" "_law_refused" (defArgs s_law_refused) (defBody s_law_refused) (defScope s_law_refused) [] [] (He.ga K "_law_refused") fd
  d_law_shape_in : ∃ fd, FunD K "_law_shape_in" "_law_shape_in" (defArgs s_law_shape_in) (defBody s_law_shape_in) (defScope s_law_shape_in) [] [] (He.ga K "_law_shape_in") fd
  d_law_shape_text : ∃ fd, FunD K "_law_shape_text" "_law_shape_text" (defArgs s_law_shape_text) (defBody s_law_shape_text) (defScope s_law_shape_text) [] [] (He.ga K "_law_shape_text") fd
  d_law_trace : ∃ fd, FunD K "_law_trace" "_law_trace" (defArgs s_law_trace) (defBody s_law_trace) (defScope s_law_trace) [] [] (He.ga K "_law_trace") fd
  d_law_trace_told : ∃ fd, FunD K "_law_trace_told" "_law_trace_told" (defArgs s_law_trace_told) (defBody s_law_trace_told) (defScope s_law_trace_told) [] [] (He.ga K "_law_trace_told") fd
  d_law_tried : ∃ fd, FunD K "_law_tried" "_law_tried" (defArgs s_law_tried) (defBody s_law_tried) (defScope s_law_tried) [] [] (He.ga K "_law_tried") fd
  d_law_turned : ∃ fd, FunD K "_law_turned" "_law_turned" (defArgs s_law_turned) (defBody s_law_turned) (defScope s_law_turned) [] [] (He.ga K "_law_turned") fd
  d_read_numbers : ∃ fd, FunD K "read_numbers" "read_numbers" (defArgs s_read_numbers) (defBody s_read_numbers) (defScope s_read_numbers) [] [] (He.ga K "read_numbers") fd
  d_trace : ∃ fd, FunD K "trace" "trace" (defArgs s_trace) (defBody s_trace) (defScope s_trace) [] [] (He.ga K "trace") fd
  d_trace_of : ∃ fd, FunD K "trace_of" "trace_of" (defArgs s_trace_of) (defBody s_trace_of) (defScope s_trace_of) [] [] (He.ga K "trace_of") fd
  fld_columns : FldOk K (TT K) "columns" [(0, 2)]
  fld_filling_count : FldOk K (TT K) "filling_count" [(0, 3)]
  fld_numbers : FldOk K (TT K) "numbers" [(0, 0)]
  fld_size : FldOk K (TT K) "size" [(0, 1)]
  g_BadCoordinates : mg "BadCoordinates" = some (.ref (He.ga K "BadCoordinates"))
  g_BadCrest : mg "BadCrest" = some (.ref (He.ga K "BadCrest"))
  g_BadEquation : mg "BadEquation" = some (.ref (He.ga K "BadEquation"))
  g_BadField : mg "BadField" = some (.ref (He.ga K "BadField"))
  g_BadMarks : mg "BadMarks" = some (.ref (He.ga K "BadMarks"))
  g_BadMix : mg "BadMix" = some (.ref (He.ga K "BadMix"))
  g_BadNumber : mg "BadNumber" = some (.ref (He.ga K "BadNumber"))
  g_BadPoly : mg "BadPoly" = some (.ref (He.ga K "BadPoly"))
  g_BadSaying : mg "BadSaying" = some (.ref (He.ga K "BadSaying"))
  g_BadScript : mg "BadScript" = some (.ref (He.ga K "BadScript"))
  g_BadShape : mg "BadShape" = some (.ref (He.ga K "BadShape"))
  g_BadShuffle : mg "BadShuffle" = some (.ref (He.ga K "BadShuffle"))
  g_BadSpan : mg "BadSpan" = some (.ref (He.ga K "BadSpan"))
  g_BadTable : mg "BadTable" = some (.ref (He.ga K "BadTable"))
  g_Ended : mg "Ended" = some (.ref (He.ga K "Ended"))
  g_EqualMarks : mg "EqualMarks" = some (.ref (He.ga K "EqualMarks"))
  g_NoSuch : mg "NoSuch" = some (.ref (He.ga K "NoSuch"))
  g_NotReal : mg "NotReal" = some (.ref (He.ga K "NotReal"))
  g_NotTrim : mg "NotTrim" = some (.ref (He.ga K "NotTrim"))
  g_Refusal : mg "Refusal" = some (.ref (He.ga K "Refusal"))
  g_Shape : mg "Shape" = some (.ref (He.ga K "Shape"))
  g_TooMany : mg "TooMany" = some (.ref (He.ga K "TooMany"))
  g_Unlike : mg "Unlike" = some (.ref (He.ga K "Unlike"))
  g_Unreadable : mg "Unreadable" = some (.ref (He.ga K "Unreadable"))
  g__law_classes : mg "_law_classes" = some (.ref (He.ga K "_law_classes"))
  g__law_count : mg "_law_count" = some (.ref (He.ga K "_law_count"))
  g__law_draw : mg "_law_draw" = some (.ref (He.ga K "_law_draw"))
  g__law_jar : mg "_law_jar" = some (.ref (He.ga K "_law_jar"))
  g__law_like : mg "_law_like" = some (.ref (He.ga K "_law_like"))
  g__law_lists : mg "_law_lists" = some (.ref (He.ga K "_law_lists"))
  g__law_mixed : mg "_law_mixed" = some (.ref (He.ga K "_law_mixed"))
  g__law_parts_of : mg "_law_parts_of" = some (.ref (He.ga K "_law_parts_of"))
  g__law_pick : mg "_law_pick" = some (.ref (He.ga K "_law_pick"))
  g__law_refused : mg "_law_refused" = some (.ref (He.ga K "_law_refused"))
  g__law_shape_in : mg "_law_shape_in" = some (.ref (He.ga K "_law_shape_in"))
  g__law_shape_text : mg "_law_shape_text" = some (.ref (He.ga K "_law_shape_text"))
  g__law_trace : mg "_law_trace" = some (.ref (He.ga K "_law_trace"))
  g__law_trace_told : mg "_law_trace_told" = some (.ref (He.ga K "_law_trace_told"))
  g__law_tried : mg "_law_tried" = some (.ref (He.ga K "_law_tried"))
  g__law_turned : mg "_law_turned" = some (.ref (He.ga K "_law_turned"))
  g_boxes_of : mg "boxes_of" = some (.ref (He.ga K "boxes_of"))
  g_columns_of : mg "columns_of" = some (.ref (He.ga K "columns_of"))
  g_degrees_of : mg "degrees_of" = some (.ref (He.ga K "degrees_of"))
  g_filling_count_of : mg "filling_count_of" = some (.ref (He.ga K "filling_count_of"))
  g_integers_in : mg "integers_in" = some (.ref (He.ga K "integers_in"))
  g_is_digits : mg "is_digits" = some (.ref (He.ga K "is_digits"))
  g_is_integer : mg "is_integer" = some (.ref (He.ga K "is_integer"))
  g_read_numbers : mg "read_numbers" = some (.ref (He.ga K "read_numbers"))
  g_trace : mg "trace" = some (.ref (He.ga K "trace"))
  g_trace_of : mg "trace_of" = some (.ref (He.ga K "trace_of"))
  i_SIZE : ∃ t, mg "SIZE" = some (.int 12 t)
  isa : IsaOk K (TT K) isa
  mk_Shape : Mk K ((TT K).C 0) (He.ma K (He.ga K "Shape") "__init__")
  n_LookupError : mg "LookupError" = none
  n_RuntimeError : mg "RuntimeError" = none
  n_ValueError : mg "ValueError" = none
  n_bool : mg "bool" = none
  n_dict : mg "dict" = none
  n_enumerate : mg "enumerate" = none
  n_int : mg "int" = none
  n_isinstance : mg "isinstance" = none
  n_len : mg "len" = none
  n_list : mg "list" = none
  n_max : mg "max" = none
  n_min : mg "min" = none
  n_range : mg "range" = none
  n_sorted : mg "sorted" = none
  n_str : mg "str" = none
  n_sum : mg "sum" = none
  n_tuple : mg "tuple" = none
  ra_Unlike : RaisOk P w K mg base (TT K) 1 [0] 1
  tb_law : LamX.TabB base mg (codeA K (He.ga K "law")) (tabA K (He.ga K "law"))
  xf_at : XFldOk K (TT K) "at" []
  xf_count : XFldOk K (TT K) "count" []
  xf_first : XFldOk K (TT K) "first" []
  xf_found : XFldOk K (TT K) "found" []
  xf_line : XFldOk K (TT K) "line" []
  xf_name : XFldOk K (TT K) "name" []
  xf_rows : XFldOk K (TT K) "rows" []
  xf_second : XFldOk K (TT K) "second" []
  xf_what : XFldOk K (TT K) "what" [(1, 0)]
  xf_why : XFldOk K (TT K) "why" []
  xi_BadCoordinates : XIsOk K (TT K) (.o 13) [(1, false)]
  xi_BadCrest : XIsOk K (TT K) (.o 10) [(1, false)]
  xi_BadEquation : XIsOk K (TT K) (.o 14) [(1, false)]
  xi_BadField : XIsOk K (TT K) (.o 11) [(1, false)]
  xi_BadMarks : XIsOk K (TT K) (.o 9) [(1, false)]
  xi_BadMix : XIsOk K (TT K) (.o 8) [(1, false)]
  xi_BadNumber : XIsOk K (TT K) (.o 2) [(1, false)]
  xi_BadPoly : XIsOk K (TT K) (.o 3) [(1, false)]
  xi_BadSaying : XIsOk K (TT K) (.o 5) [(1, false)]
  xi_BadScript : XIsOk K (TT K) (.o 15) [(1, false)]
  xi_BadShape : XIsOk K (TT K) (.o 6) [(1, false)]
  xi_BadShuffle : XIsOk K (TT K) (.o 7) [(1, false)]
  xi_BadSpan : XIsOk K (TT K) (.o 12) [(1, false)]
  xi_BadTable : XIsOk K (TT K) (.o 4) [(1, false)]
  xi_Ended : XIsOk K (TT K) (.o 21) [(1, false)]
  xi_EqualMarks : XIsOk K (TT K) (.o 16) [(1, false)]
  xi_LookupError : XIsOk K (TT K) (.b "LookupError") [(1, false)]
  xi_NoSuch : XIsOk K (TT K) (.o 20) [(1, false)]
  xi_NotReal : XIsOk K (TT K) (.o 18) [(1, false)]
  xi_NotTrim : XIsOk K (TT K) (.o 17) [(1, false)]
  xi_Refusal : XIsOk K (TT K) (.o 23) [(1, true)]
  xi_RuntimeError : XIsOk K (TT K) (.b "RuntimeError") [(1, false)]
  xi_TooMany : XIsOk K (TT K) (.o 19) [(1, false)]
  xi_Unlike : XIsOk K (TT K) (.o 1) [(1, true)]
  xi_Unreadable : XIsOk K (TT K) (.o 22) [(1, false)]
  xi_ValueError : XIsOk K (TT K) (.b "ValueError") [(1, true)]
  xm_Refusal : ∀ x ∈ [1], PySem.W.exmOne K (.ref ((TT K).C x)) (.ref (He.ga K "Refusal")) = some true
theorem tbm_law {K : PySem.W.Frag} : (tabA K (He.ga K "law"), ((envOfC "law" (defScope s_law) 0 0 .none).qual ++ ("<lambda>" : Str))) ∈ (TT K).tb := by unfold TT; simp
/-! the walks -/
section
variable {P : Program} {w : World} {K : PySem.W.Frag} {mg : Str → Option Value} {base : Heap}
theorem bd_columns_of (E : Fs P w K mg base) {cdv : Value} {A : Around} {outer : List Env} {s : Shared} {H G : Hp} {EE : XK} {mk : MkT (TT K) G} (hr : Room 0 (A.deeper (envOfC "columns_of" (defScope s_columns_of) s.heap.objs.size (He.ga K "columns_of") cdv))) :
    PSs (cxOf (L2N.CX P w) P w K mg base N_columns_of "columns_of" (defScope s_columns_of) (He.ga K "columns_of") cdv A outer s H EE) (defBody s_columns_of) (tS K (b0 K (TT K) G H EE mk) w_columns_of) :=
  (pss_c (ps_iff (pt_p2 (pu_p _) (pu_c _) (tc_eq (hu64 hr) (pe_p1 (pu_r _) (q_len (pe_bi cr_lenA cv_len rfl E.n_len boot_len (pa_cons (pv 0) pa_nil)))) (pe_eC pe_int rfl))) (pss_1 (ps_rt (pe_eTup pa_nil))) pss_n)
    (pss_1 (ps_rt (pe_bt call_tuple_of cv_tuple rfl E.n_tuple boot_tuple' (pa_cons (r_lc (pe_co (own := [("column", 1)]) rfl sc_columns_of.nd (pi_r1 rfl E.n_range (pa_cons (pe_p2 (pu_r _) (pu_c _) (q_sub (pe_sub' (hu65 hr) (pv 0) (pe_eC pe_int rfl)))) pa_nil)) (blk_of (by kernel_rfl)) (inn_of rfl) (fun _ _ _ _ _ _ _ _ => (pgn 1 sc_columns_of.nd)) (fun _ _ _ _ _ _ _ _ => pts_0) (fun _ _ _ _ _ _ _ _ => (q_len (pe_bi cr_lenA cv_len rfl E.n_len boot_len (pa_cons (r_lc (pe_co (own := [("number", 2)]) rfl sc_columns_of.nd (pi_seq (pe_eVarR (pv 0))) (blk_of (by kernel_rfl)) (inn_of rfl) (fun _ _ _ _ _ _ _ _ => (pgn 2 sc_columns_of.nd)) (fun _ _ _ _ _ _ _ _ => (pts_1 (pt_p2 (pu_r _) (pu_r _) (tc_gt (pv 2) (pv 1))))) (fun _ _ _ _ _ _ _ _ => (pe_eVarR (pv 2))))) pa_nil)))))) pa_nil)))))
theorem ok_columns_of (E : Fs P w K mg base) : FnR P w K mg base (L2N.CX P w) 1 (He.ga K "columns_of") (spF K (TT K) 1 m_columns_of) := by
  obtain ⟨fd, F⟩ := E.d_columns_of
  exact fnR_of (fn_F F sc_columns_of rfl fun cdv A outer s H G EE mk hr => bd_columns_of E hr) (F.bindsN fun _ _ _ _ _ _ us hl => match us, hl with | [_], _ => rfl)
theorem bd_boxes_of (E : Fs P w K mg base) {cdv : Value} {A : Around} {outer : List Env} {s : Shared} {H G : Hp} {EE : XK} {mk : MkT (TT K) G} (hr : Room 0 (A.deeper (envOfC "boxes_of" (defScope s_boxes_of) s.heap.objs.size (He.ga K "boxes_of") cdv))) :
    PSs (cxOf (L2N.CX P w) P w K mg base N_boxes_of "boxes_of" (defScope s_boxes_of) (He.ga K "boxes_of") cdv A outer s H EE) (defBody s_boxes_of) (tS K (b0 K (TT K) G H EE mk) w_boxes_of) :=
  (pss_1 (ps_rt (r_lc2 (pe_co2 (own := [("row", 1), ("number", 2), ("column", 3)]) (vs1 := [3]) rfl sc_boxes_of.nd (pi_enu2 rfl E.n_enumerate (pe_eVarR (pv 0))) (blk_of (by kernel_rfl)) (sub_of rfl) (inn_of rfl) (inn_of rfl) (fun _ _ _ _ _ _ _ _ => (pg_t rfl (pgs_c (pgn 1 sc_boxes_of.nd) (pgs_c (pgn 2 sc_boxes_of.nd) pgs_n)) rfl)) (fun _ _ _ _ _ _ _ _ => pts_0) (fun _ _ _ _ _ _ _ _ => (pi_r1 rfl E.n_range (pa_cons (pv 2) pa_nil))) (fun _ _ _ _ _ _ _ _ => (pgn 3 sc_boxes_of.nd)) (fun _ _ _ _ _ _ _ _ => pts_0) (fun _ _ _ _ _ _ _ _ => (pe_eTup (pa_cons (pe_eVarR (pv 1)) (pa_cons (pe_eVarR (pv 3)) pa_nil))))))))
theorem ok_boxes_of (E : Fs P w K mg base) : FnR P w K mg base (L2N.CX P w) 1 (He.ga K "boxes_of") (spF K (TT K) 1 m_boxes_of) := by
  obtain ⟨fd, F⟩ := E.d_boxes_of
  exact fnR_of (fn_F F sc_boxes_of rfl fun cdv A outer s H G EE mk hr => bd_boxes_of E hr) (F.bindsN fun _ _ _ _ _ _ us hl => match us, hl with | [_], _ => rfl)
theorem bd_filling_count_of (E : Fs P w K mg base) {cdv : Value} {A : Around} {outer : List Env} {s : Shared} {H G : Hp} {EE : XK} {mk : MkT (TT K) G} (hr : Room 1 (A.deeper (envOfC "filling_count_of" (defScope s_filling_count_of) s.heap.objs.size (He.ga K "filling_count_of") cdv))) :
    PSs (cxOf (L2N.CX P w) P w K mg base N_filling_count_of "filling_count_of" (defScope s_filling_count_of) (He.ga K "filling_count_of") cdv A outer s H EE) (defBody s_filling_count_of) (tS K (b0 K (TT K) G H EE mk) w_filling_count_of) :=
  (pss_c (r_asg (ps_as (pe_eC pe_int rfl) (pgn 2 sc_filling_count_of.nd)))
    (pss_c (r_for (ps_fo (passes_of rfl) rfl (pi_seq (pe_fCall (ok_boxes_of E) (hr.mono (by decide)) rfl E.g_boxes_of (kp_of E.d_boxes_of) (pa_cons (pe_eVarR (pv 0)) pa_nil))) (pg_t rfl (pgs_c (pgn 3 sc_filling_count_of.nd) (pgs_c (pgn 4 sc_filling_count_of.nd) pgs_n)) rfl) (pss_1 (r_asg (ps_as (pe_p2 (pu_r _) (pu_p _) (pe_mul (pv 2) (pe_p2 (pu_p _) (pu_c _) (pe_sub (pe_p2 (pu_p _) (pu_r _) (pe_sub (pe_p2 (pu_p _) (pu_p _) (pe_add (pe_p2 (pu_p _) (pu_r _) (pe_sub (pe_p2 (pu_r _) (pu_r _) (q_sub (pe_sub' (hu65 hr) (pv 0) (pv 3)))) (pv 4))) (pe_p2 (pu_r _) (pu_r _) (q_sub (pe_sub' (hu65 hr) (pv 1) (pv 4)))))) (pv 3))) (pe_eC pe_int rfl))))) (pgn 2 sc_filling_count_of.nd))))))
    (pss_1 (ps_rt (pe_p2 (pu_p _) (pu_r _) (pe_div (pe_p1 (pu_p _) (pe_bf cr_fac cv_fac rfl E.b_factorial (pa_cons (pe_p1 (pu_r _) (pe_bi (cr_sumA rfl) cv_sum rfl E.n_sum boot_sum' (pa_cons (pv 0) pa_nil))) pa_nil))) (pv 2)))))))
theorem ok_filling_count_of (E : Fs P w K mg base) : FnR P w K mg base (L2N.CX P w) 2 (He.ga K "filling_count_of") (spF K (TT K) 2 m_filling_count_of) := by
  obtain ⟨fd, F⟩ := E.d_filling_count_of
  exact fnR_of (fn_F F sc_filling_count_of rfl fun cdv A outer s H G EE mk hr => bd_filling_count_of E hr) (F.bindsN fun _ _ _ _ _ _ us hl => match us, hl with | [_, _], _ => rfl)
theorem bd_is_digits (E : Fs P w K mg base) {cdv : Value} {A : Around} {outer : List Env} {s : Shared} {H G : Hp} {EE : XK} {mk : MkT (TT K) G} (hr : Room 0 (A.deeper (envOfC "is_digits" (defScope s_is_digits) s.heap.objs.size (He.ga K "is_digits") cdv))) :
    PSs (cxOf (L2N.CX P w) P w K mg base N_is_digits "is_digits" (defScope s_is_digits) (He.ga K "is_digits") cdv A outer s H EE) (defBody s_is_digits) (tS K (b0 K (TT K) G H EE mk) w_is_digits) :=
  (pss_c (ps_iff (PW.pt (pw_oo (pt_p2 (pu_r _) (pu_c _) (tc_eq (hu64 hr) (pv 0) (pe_eC pe_str rfl))) (pw_or1 (pt_no (pt_tru (pe_isdigit (pv 0))))))) (pss_1 (ps_rt (pe_eC pe_bl rfl))) pss_n)
    (pss_1 (ps_rt (pe_orV (pe_p2 (pu_r _) (pu_c _) (pe_eq (hu64 hr) (pv 0) (pe_eC pe_str rfl))) (pe_one (pe_p2 (pu_p _) (pu_c _) (pe_ne (hu64 hr) (pe_p2 (pu_r _) (pu_c _) (q_sub (pe_sub' (hu65 hr) (pv 0) (pe_eC pe_int rfl)))) (pe_eC pe_str rfl))))))))
theorem ok_is_digits (E : Fs P w K mg base) : FnR P w K mg base (L2N.CX P w) 1 (He.ga K "is_digits") (spF K (TT K) 1 m_is_digits) := by
  obtain ⟨fd, F⟩ := E.d_is_digits
  exact fnR_of (fn_F F sc_is_digits rfl fun cdv A outer s H G EE mk hr => bd_is_digits E hr) (F.bindsN fun _ _ _ _ _ _ us hl => match us, hl with | [_], _ => rfl)
theorem bd_integers_in (E : Fs P w K mg base) {cdv : Value} {A : Around} {outer : List Env} {s : Shared} {H G : Hp} {EE : XK} {mk : MkT (TT K) G} (hr : Room 1 (A.deeper (envOfC "integers_in" (defScope s_integers_in) s.heap.objs.size (He.ga K "integers_in") cdv))) :
    PSs (cxOf (L2N.CX P w) P w K mg base N_integers_in "integers_in" (defScope s_integers_in) (He.ga K "integers_in") cdv A outer s H EE) (defBody s_integers_in) (tS K (b0 K (TT K) G H EE mk) w_integers_in) :=
  (pss_c (ps_iff (pt_p2 (pu_r _) (pu_c _) (tc_eq (hu64 hr) (pv 0) (pe_eC pe_str rfl))) (pss_1 (ps_rt (pe_eLst pa_nil))) pss_n)
    (pss_1 (ps_rt (r_lc (pe_co (own := [("word", 1)]) rfl sc_integers_in.nd (pi_seq (pe_spl (pv 0) (pe_eC pe_str rfl))) (blk_of (by kernel_rfl)) (inn_of rfl) (fun _ _ _ _ _ _ _ _ => (pgn 1 sc_integers_in.nd)) (fun _ _ _ _ _ _ _ _ => pts_0) (fun _ _ _ _ _ _ _ _ => (pe_if (pt_tru (pe_fCall (ok_is_digits E) (hr.mono (by decide)) rfl E.g_is_digits (kp_of E.d_is_digits) (pa_cons (pe_eVarR (pv 1)) pa_nil))) (pe_p1 (pu_r _) (pe_bt cr_intA cv_int rfl E.n_int boot_int' (pa_cons (pv 1) pa_nil))) (pe_eC pe_non rfl))))))))
theorem ok_integers_in (E : Fs P w K mg base) : FnR P w K mg base (L2N.CX P w) 2 (He.ga K "integers_in") (spF K (TT K) 1 m_integers_in) := by
  obtain ⟨fd, F⟩ := E.d_integers_in
  exact fnR_of (fn_F F sc_integers_in rfl fun cdv A outer s H G EE mk hr => bd_integers_in E hr) (F.bindsN fun _ _ _ _ _ _ us hl => match us, hl with | [_], _ => rfl)
theorem bd_is_integer (E : Fs P w K mg base) {cdv : Value} {A : Around} {outer : List Env} {s : Shared} {H G : Hp} {EE : XK} {mk : MkT (TT K) G} (hr : Room 0 (A.deeper (envOfC "is_integer" (defScope s_is_integer) s.heap.objs.size (He.ga K "is_integer") cdv))) :
    PSs (cxOf (L2N.CX P w) P w K mg base N_is_integer "is_integer" (defScope s_is_integer) (He.ga K "is_integer") cdv A outer s H EE) (defBody s_is_integer) (tS K (b0 K (TT K) G H EE mk) w_is_integer) :=
  (pss_1 (ps_rt (pe_andV (pe_is1 E.isa rfl E.n_isinstance (pv 0) (pe_ty' rfl E.n_int boot_int')) (pe_one (pe_notV (pe_is1 E.isa rfl E.n_isinstance (pv 0) (pe_ty' rfl E.n_bool boot_bool')))))))
theorem ok_is_integer (E : Fs P w K mg base) : FnR P w K mg base (L2N.CX P w) 1 (He.ga K "is_integer") (spF K (TT K) 1 m_is_integer) := by
  obtain ⟨fd, F⟩ := E.d_is_integer
  exact fnR_of (fn_F F sc_is_integer rfl fun cdv A outer s H G EE mk hr => bd_is_integer E hr) (F.bindsN fun _ _ _ _ _ _ us hl => match us, hl with | [_], _ => rfl)
theorem bd_read_numbers (E : Fs P w K mg base) {cdv : Value} {A : Around} {outer : List Env} {s : Shared} {H G : Hp} {EE : XK} {mk : MkT (TT K) G} (hr : Room 2 (A.deeper (envOfC "read_numbers" (defScope s_read_numbers) s.heap.objs.size (He.ga K "read_numbers") cdv))) :
    PSs (cxOf (L2N.CX P w) P w K mg base N_read_numbers "read_numbers" (defScope s_read_numbers) (He.ga K "read_numbers") cdv A outer s H EE) (defBody s_read_numbers) (tS K (b0 K (TT K) G H EE mk) w_read_numbers) :=
  (pss_c (ps_iff (pt_tru (pe_is1 E.isa rfl E.n_isinstance (pv 0) (pe_ty' rfl E.n_str boot_str'))) (pss_1 (r_asg (ps_as (pe_fCall (ok_integers_in E) (hr.mono (by decide)) rfl E.g_integers_in (kp_of E.d_integers_in) (pa_cons (pe_eVarR (pv 0)) pa_nil)) (pgn 1 sc_read_numbers.nd)))) (pss_1 (ps_iff (pt_tru (pe_is2 E.isa rfl E.n_isinstance (pv 0) (pe_ty' rfl E.n_list boot_list') (pe_ty' rfl E.n_tuple boot_tuple'))) (pss_1 (r_asg (ps_as (pe_p1 (pu_r _) (pe_bt call_list_of cv_list rfl E.n_list boot_list' (pa_cons (pv 0) pa_nil))) (pgn 1 sc_read_numbers.nd)))) (pss_1 ps_no))))
    (pss_c (r_for (ps_fo (passes_of rfl) rfl (pi_enu2 rfl E.n_enumerate (pe_eVarR (pv 1))) (pg_t rfl (pgs_c (pgn 2 sc_read_numbers.nd) (pgs_c (pgn 3 sc_read_numbers.nd) pgs_n)) rfl) (pss_c (ps_iff (PW.pt (pw_oo (pt_no (pt_tru (pe_fCall (ok_is_integer E) (hr.mono (by decide)) rfl E.g_is_integer (kp_of E.d_is_integer) (pa_cons (pe_eVarR (pv 3)) pa_nil)))) (pw_or1 (pt_p2 (pu_r _) (pu_c _) (tc_lt (pv 3) (pe_eC pe_int rfl)))))) (pss_1 ps_no) pss_n)
    (pss_1 (ps_iff (PW.pt (pw_an (pt_p2 (pu_r _) (pu_c _) (tc_gt (pv 2) (pe_eC pe_int rfl))) (pw_and1 (pt_p2 (pu_r _) (pu_p _) (tc_gt (pv 3) (pe_p2 (pu_r _) (pu_p _) (q_sub (pe_sub' (hu65 hr) (pv 1) (pe_p2 (pu_r _) (pu_c _) (pe_sub (pv 2) (pe_eC pe_int rfl))))))))))) (pss_1 ps_no) pss_n)))))
    (pss_1 (ps_rt (pe_p1 (pu_r _) (pe_bt call_tuple_of cv_tuple rfl E.n_tuple boot_tuple' (pa_cons (pv 1) pa_nil)))))))
theorem ok_read_numbers (E : Fs P w K mg base) : FnR P w K mg base (L2N.CX P w) 3 (He.ga K "read_numbers") (spF K (TT K) 1 m_read_numbers) := by
  obtain ⟨fd, F⟩ := E.d_read_numbers
  exact fnR_of (fn_F F sc_read_numbers rfl fun cdv A outer s H G EE mk hr => bd_read_numbers E hr) (F.bindsN fun _ _ _ _ _ _ us hl => match us, hl with | [_], _ => rfl)
theorem bd_Shape_init (E : Fs P w K mg base) {cdv : Value} {A : Around} {outer : List Env} {s : Shared} {H G : Hp} {p : Addr} {hp : H p ≠ none} {EE : XK} {mk : MkT (TT K) G} (hr : Room 3 (A.deeper (envOfC "Shape.__init__" (defScope s_Shape_init) s.heap.objs.size (He.ma K (He.ga K "Shape") "__init__") cdv))) :
    PSs (cxOf (L2N.CX P w) P w K mg base N_Shape_init "Shape.__init__" (defScope s_Shape_init) (He.ma K (He.ga K "Shape") "__init__") cdv A outer s H EE) (defBody s_Shape_init) (tS K (bI K (TT K) G H p hp EE mk) w_Shape_init) :=
  (pss_c (ps_iff (pt_tru (pe_is1 E.isa rfl E.n_isinstance (pv 1) (pe_cl' rfl E.g_Shape))) (pss_1 (ps_fldS E.fld_numbers (pv 0) (pe_p1 (pu_r _) (pe_fld' E.fld_numbers (pv 1))))) (pss_1 (ps_fldS E.fld_numbers (pv 0) (pe_fCall (ok_read_numbers E) (hr.mono (by decide)) rfl E.g_read_numbers (kp_of E.d_read_numbers) (pa_cons (pe_eVarR (pv 1)) pa_nil)))))
    (pss_c (ps_fldS E.fld_size (pv 0) (pe_p1 (pu_p _) (pe_bi (cr_sumA rfl) cv_sum rfl E.n_sum boot_sum' (pa_cons (pe_p1 (pu_r _) (pe_fld' E.fld_numbers (pv 0))) pa_nil))))
    (pss_c (ps_iff (pt_p2 (pu_p _) (pu_c _) (tc_gt (pe_p1 (pu_r _) (pe_fld' E.fld_size (pv 0))) (pe_gI rfl E.i_SIZE))) (pss_1 ps_no) pss_n)
    (pss_c (ps_fldS E.fld_columns (pv 0) (pe_fCall (ok_columns_of E) (hr.mono (by decide)) rfl E.g_columns_of (kp_of E.d_columns_of) (pa_cons (pe_p1 (pu_r _) (pe_fld' E.fld_numbers (pv 0))) pa_nil)))
    (pss_1 (ps_fldS E.fld_filling_count (pv 0) (pe_fCall (ok_filling_count_of E) (hr.mono (by decide)) rfl E.g_filling_count_of (kp_of E.d_filling_count_of) (pa_cons (pe_p1 (pu_r _) (pe_fld' E.fld_numbers (pv 0))) (pa_cons (pe_p1 (pu_r _) (pe_fld' E.fld_columns (pv 0))) pa_nil)))))))))
theorem ok_Shape_init (E : Fs P w K mg base) : FnR P w K mg base (L2N.CX P w) 4 (He.ma K (He.ga K "Shape") "__init__") (spI K (TT K) 2 m_Shape_init) := by
  obtain ⟨fd, F⟩ := E.d_Shape_init
  exact fnR_of (fn_I F sc_Shape_init rfl fun cdv A outer s H G p hp EE mk hr => bd_Shape_init E hr) (F.bindsN fun _ _ _ _ _ _ us hl => match us, hl with | [_, _], _ => rfl)
theorem bd_degrees_of (E : Fs P w K mg base) {cdv : Value} {A : Around} {outer : List Env} {s : Shared} {H G : Hp} {EE : XK} {mk : MkT (TT K) G} (hr : Room 0 (A.deeper (envOfC "degrees_of" (defScope s_degrees_of) s.heap.objs.size (He.ga K "degrees_of") cdv))) :
    PSs (cxOf (L2N.CX P w) P w K mg base N_degrees_of "degrees_of" (defScope s_degrees_of) (He.ga K "degrees_of") cdv A outer s H EE) (defBody s_degrees_of) (tS K (b0 K (TT K) G H EE mk) w_degrees_of) :=
  (pss_c (r_asg (ps_as (pe_add (pe_p1 (pu_r _) (pe_bt call_list_of cv_list rfl E.n_list boot_list' (pa_cons (pv 0) pa_nil))) (r_lc (pe_co (own := [("_", 3)]) rfl sc_degrees_of.nd (pi_r1 rfl E.n_range (pa_cons (pe_p2 (pu_r _) (pu_p _) (pe_sub (pv 1) (pe_p1 (pu_r _) (q_len (pe_bi cr_lenA cv_len rfl E.n_len boot_len (pa_cons (pv 0) pa_nil)))))) pa_nil)) (blk_of (by kernel_rfl)) (inn_of rfl) (fun _ _ _ _ _ _ _ _ => (pgn 3 sc_degrees_of.nd)) (fun _ _ _ _ _ _ _ _ => pts_0) (fun _ _ _ _ _ _ _ _ => (pe_eC pe_int rfl))))) (pgn 2 sc_degrees_of.nd)))
    (pss_1 (ps_rt (pe_bt call_tuple_of cv_tuple rfl E.n_tuple boot_tuple' (pa_cons (r_lc (pe_co (own := [("row", 4), ("number", 5)]) rfl sc_degrees_of.nd (pi_enu2 rfl E.n_enumerate (pe_eVarR (pv 2))) (blk_of (by kernel_rfl)) (inn_of rfl) (fun _ _ _ _ _ _ _ _ => (pg_t rfl (pgs_c (pgn 4 sc_degrees_of.nd) (pgs_c (pgn 5 sc_degrees_of.nd) pgs_n)) rfl)) (fun _ _ _ _ _ _ _ _ => pts_0) (fun _ _ _ _ _ _ _ _ => (pe_p2 (pu_p _) (pu_r _) (pe_sub (pe_p2 (pu_p _) (pu_c _) (pe_sub (pe_p2 (pu_r _) (pu_r _) (pe_add (pv 5) (pv 1))) (pe_eC pe_int rfl))) (pv 4)))))) pa_nil)))))
theorem ok_degrees_of (E : Fs P w K mg base) : FnR P w K mg base (L2N.CX P w) 1 (He.ga K "degrees_of") (spF K (TT K) 2 m_degrees_of) := by
  obtain ⟨fd, F⟩ := E.d_degrees_of
  exact fnR_of (fn_F F sc_degrees_of rfl fun cdv A outer s H G EE mk hr => bd_degrees_of E hr) (F.bindsN fun _ _ _ _ _ _ us hl => match us, hl with | [_, _], _ => rfl)
theorem bd_trace_of (E : Fs P w K mg base) {cdv : Value} {A : Around} {outer : List Env} {s : Shared} {H G : Hp} {EE : XK} {mk : MkT (TT K) G} (hr : Room 1 (A.deeper (envOfC "trace_of" (defScope s_trace_of) s.heap.objs.size (He.ga K "trace_of") cdv))) :
    PSs (cxOf (L2N.CX P w) P w K mg base N_trace_of "trace_of" (defScope s_trace_of) (He.ga K "trace_of") cdv A outer s H EE) (defBody s_trace_of) (tS K (b0 K (TT K) G H EE mk) w_trace_of) :=
  (pss_c (r_asg (ps_as (pe_di1 (hu1 hr) (fun _ _ _ => (pe_fCall (ok_degrees_of E) (hr.mono (by decide)) rfl E.g_degrees_of (kp_of E.d_degrees_of) (pa_cons (pe_eVarR (pv 0)) (pa_cons (pe_p1 (pu_r _) (q_len (pe_bi cr_lenA cv_len rfl E.n_len boot_len (pa_cons (pv 0) pa_nil)))) pa_nil)))) (fun _ _ _ => (pe_eC pe_int rfl))) (pgn 2 sc_trace_of.nd)))
    (pss_c (r_for (ps_fo (passes_of rfl) rfl (pi_seq (pe_eVarR (pv 1))) (pgn 3 sc_trace_of.nd) (pss_c (r_asg (ps_as pe_d0T (pgn 4 sc_trace_of.nd)))
    (pss_c (ps_foI (passes_of rfl) rfl (pv 2) (fun _ _ _ _ => (pg_t rfl (pgs_c (pgn 5 sc_trace_of.nd) (pgs_c (pgn 6 sc_trace_of.nd) pgs_n)) rfl)) (fun _ _ _ _ => (pss_1 (r_for (ps_fo (passes_of rfl) rfl (pi_enu2 rfl E.n_enumerate (pe_eVarR (pv 5))) (pg_t rfl (pgs_c (pgn 7 sc_trace_of.nd) (pgs_c (pgn 8 sc_trace_of.nd) pgs_n)) rfl) (pss_c (r_asg (ps_as (pe_p2 (pu_r _) (pu_r _) (pe_sub (pv 8) (pv 3))) (pgn 9 sc_trace_of.nd)))
    (pss_1 (ps_iff (PW.pt (pw_an (pt_p2 (pu_r _) (pu_c _) (tc_ge (pv 9) (pe_eC pe_int rfl))) (pw_and1 (pt_p2 (pu_r _) (pu_r _) (tc_nin (hu65 hr) (pv 9) (pv 5) (by rfl)))))) (pss_c (r_asg (ps_as (q_len (pe_bi cr_lenA cv_len rfl E.n_len boot_len (pa_cons (r_lc (pe_co (own := [("other", 13)]) rfl sc_trace_of.nd (pi_seq (pe_eVarR (pv 5))) (blk_of (by kernel_rfl)) (inn_of rfl) (fun _ _ _ _ _ _ _ _ => (pgn 13 sc_trace_of.nd)) (fun _ _ _ _ _ _ _ _ => (pts_1 (tch_lt (pv 9) (pv 13) (pv 8)))) (fun _ _ _ _ _ _ _ _ => (pe_eVarR (pv 13))))) pa_nil))) (pgn 10 sc_trace_of.nd)))
    (pss_c (r_asg (ps_as (pe_add (pe_add (pe_add (pe_sl (pv 5) po_no (po_so (pv 7))) (pe_sl (pv 5) (po_so (pe_p2 (pu_r _) (pu_c _) (pe_add (pv 7) (pe_eC pe_int rfl)))) (po_so (pe_p2 (pu_p _) (pu_r _) (pe_add (pe_p2 (pu_r _) (pu_c _) (pe_add (pv 7) (pe_eC pe_int rfl))) (pv 10)))))) (pe_eTup (pa_cons (pe_eVarR (pv 9)) pa_nil))) (pe_sl (pv 5) (po_so (pe_p2 (pu_p _) (pu_r _) (pe_add (pe_p2 (pu_r _) (pu_c _) (pe_add (pv 7) (pe_eC pe_int rfl))) (pv 10)))) po_no)) (pgn 11 sc_trace_of.nd)))
    (pss_c (r_asg (ps_as (pe_if (pt_p2 (pu_p _) (pu_c _) (tc_eq (hu64 hr) (pe_p2 (pu_r _) (pu_c _) (pe_mod (pv 10) (pe_eC pe_int rfl))) (pe_eC pe_int rfl))) (pe_eVarR (pv 6)) (pe_p1 (pu_r _) (pe_neg (pv 6)))) (pgn 12 sc_trace_of.nd)))
    (pss_1 (ps_set' (hu65 hr) (pv 4) (pv 11) (pe_add (pe_ge2 (hu65 hr) (pv 4) (pv 11) (pe_eC pe_int rfl)) (pv 12))))))) pss_n))))))))
    (pss_1 (r_asg (ps_as (pe_eVarR (pv 4)) (pgn 2 sc_trace_of.nd))))))))
    (pss_1 (ps_rt (pe_bi (cr_sumA rfl) cv_sum rfl E.n_sum boot_sum' (pa_cons (pe_lv rfl (pv 2) rfl E.n_list boot_list') pa_nil))))))
theorem ok_trace_of (E : Fs P w K mg base) : FnR P w K mg base (L2N.CX P w) 2 (He.ga K "trace_of") (spF K (TT K) 2 m_trace_of) := by
  obtain ⟨fd, F⟩ := E.d_trace_of
  exact fnR_of (fn_F F sc_trace_of rfl fun cdv A outer s H G EE mk hr => bd_trace_of E hr) (F.bindsN fun _ _ _ _ _ _ us hl => match us, hl with | [_, _], _ => rfl)
theorem bd_trace (E : Fs P w K mg base) {cdv : Value} {A : Around} {outer : List Env} {s : Shared} {H G : Hp} {EE : XK} {mk : MkT (TT K) G} (hr : Room 5 (A.deeper (envOfC "trace" (defScope s_trace) s.heap.objs.size (He.ga K "trace") cdv))) :
    PSs (cxOf (L2N.CX P w) P w K mg base N_trace "trace" (defScope s_trace) (He.ga K "trace") cdv A outer s H EE) (defBody s_trace) (tS K (b0 K (TT K) G H EE mk) w_trace) :=
  (pss_c (r_asg (ps_as (pe_mk E.mk_Shape (ok_Shape_init E) (hr.mono (by decide)) rfl E.g_Shape (pa_cons (pe_eVarR (pv 0)) pa_nil)) (pgn 2 sc_trace.nd)))
    (pss_c (ps_iff (pt_p2 (pu_p _) (pu_p _) (tc_ne (hu64 hr) (pe_p1 (pu_r _) (pe_bi (cr_sumA rfl) cv_sum rfl E.n_sum boot_sum' (pa_cons (pv 1) pa_nil))) (pe_p1 (pu_r _) (pe_fld' E.fld_size (pv 2))))) (pss_1 (ps_rs rfl E.ra_Unlike (hr.mono (by decide)) rfl E.g_Unlike (pa_cons (pe_eC pe_str rfl) pa_nil))) pss_n)
    (pss_1 (ps_rt (pe_fCall (ok_trace_of E) (hr.mono (by decide)) rfl E.g_trace_of (kp_of E.d_trace_of) (pa_cons (pe_p1 (pu_r _) (pe_fld' E.fld_numbers (pv 2))) (pa_cons (pe_sortS rfl E.n_sorted (pv 1) pe_bl) pa_nil)))))))
theorem ok_trace (E : Fs P w K mg base) : FnR P w K mg base (L2N.CX P w) 6 (He.ga K "trace") (spF K (TT K) 2 m_trace) := by
  obtain ⟨fd, F⟩ := E.d_trace
  exact fnR_of (fn_F F sc_trace rfl fun cdv A outer s H G EE mk hr => bd_trace E hr) (F.bindsN fun _ _ _ _ _ _ us hl => match us, hl with | [_, _], _ => rfl)
theorem okk_trace_kind_shape (E : Fs P w K mg base) : FnKw P w K mg base (L2N.CX P w) 6 (He.ga K "trace") 0 ["kind", "shape"] arV_trace_kind_shape (spF K (TT K) 2 m_trace) := by
  obtain ⟨fd, F⟩ := E.d_trace
  exact fnKw_of (fn_F F sc_trace rfl fun cdv A outer s H G EE mk hr => bd_trace E hr) (kbn_sw2 F (ps := ["shape", "kind"]) fun _ _ _ _ _ _ us ws h1 h2 => match us, ws, h1, h2 with | [], [_, _], _, _ => rfl)
theorem bd_law_count (E : Fs P w K mg base) {cdv : Value} {A : Around} {outer : List Env} {s : Shared} {H G : Hp} {EE : XK} {mk : MkT (TT K) G} (hr : Room 0 (A.deeper (envOfC "_law_count" (defScope s_law_count) s.heap.objs.size (He.ga K "_law_count") cdv))) :
    PSs (cxOf (L2N.CX P w) P w K mg base N_law_count "_law_count" (defScope s_law_count) (He.ga K "_law_count") cdv A outer s H EE) (defBody s_law_count) (tS K (b0 K (TT K) G H EE mk) w_law_count) :=
  (pss_c (r_asg (ps_as (pe_di1 (hu1 hr) (fun _ _ _ => (pe_eVarR (pv 0))) (fun _ _ _ => (pe_eC pe_int rfl))) (pgn 1 sc_law_count.nd)))
    (pss_c (r_for (ps_fo (passes_of rfl) rfl (pi_r1 rfl E.n_range (pa_cons (pe_p1 (pu_r _) (pe_bi (cr_sumA rfl) cv_sum rfl E.n_sum boot_sum' (pa_cons (pv 0) pa_nil))) pa_nil)) (pgn 2 sc_law_count.nd) (pss_c (r_asg (ps_as pe_d0T (pgn 3 sc_law_count.nd)))
    (pss_c (r_forK (ps_foK (passes_of rfl) rfl (pv 1) (fun _ _ _ _ => (pgn 4 sc_law_count.nd)) (fun _ _ _ _ => (pss_1 (r_for (ps_fo (passes_of rfl) rfl (pi_r1 rfl E.n_range (pa_cons (pe_p1 (pu_r _) (q_len (pe_bi cr_lenA cv_len rfl E.n_len boot_len (pa_cons (pv 4) pa_nil)))) pa_nil)) (pgn 5 sc_law_count.nd) (pss_1 (ps_iff (PW.pt (pw_oo (pt_p2 (pu_r _) (pu_p _) (tc_eq (hu64 hr) (pv 5) (pe_p2 (pu_p _) (pu_c _) (pe_sub (pe_p1 (pu_r _) (q_len (pe_bi cr_lenA cv_len rfl E.n_len boot_len (pa_cons (pv 4) pa_nil)))) (pe_eC pe_int rfl))))) (pw_or1 (pt_p2 (pu_p _) (pu_p _) (tc_lt (pe_p2 (pu_r _) (pu_p _) (q_sub (pe_sub' (hu65 hr) (pv 4) (pe_p2 (pu_r _) (pu_c _) (pe_add (pv 5) (pe_eC pe_int rfl)))))) (pe_p2 (pu_r _) (pu_r _) (q_sub (pe_sub' (hu65 hr) (pv 4) (pv 5))))))))) (pss_c (r_asg (ps_as (pe_add (pe_add (pe_sl (pv 4) po_no (po_so (pv 5))) (pe_eTup (pa_cons (pe_p2 (pu_p _) (pu_c _) (pe_sub (pe_p2 (pu_r _) (pu_r _) (q_sub (pe_sub' (hu65 hr) (pv 4) (pv 5)))) (pe_eC pe_int rfl))) pa_nil))) (pe_sl (pv 4) (po_so (pe_p2 (pu_r _) (pu_c _) (pe_add (pv 5) (pe_eC pe_int rfl)))) po_no)) (pgn 6 sc_law_count.nd)))
    (pss_c (ps_iff (pt_p2 (pu_p _) (pu_c _) (tc_eq (hu64 hr) (pe_p2 (pu_r _) (pu_p _) (q_sub (pe_sub' (hu65 hr) (pv 6) (pe_p2 (pu_p _) (pu_c _) (pe_sub (pe_p1 (pu_r _) (q_len (pe_bi cr_lenA cv_len rfl E.n_len boot_len (pa_cons (pv 6) pa_nil)))) (pe_eC pe_int rfl)))))) (pe_eC pe_int rfl))) (pss_1 (r_asg (ps_as (pe_sl (pv 6) po_no (po_so (pe_p2 (pu_p _) (pu_c _) (pe_sub (pe_p1 (pu_r _) (q_len (pe_bi cr_lenA cv_len rfl E.n_len boot_len (pa_cons (pv 6) pa_nil)))) (pe_eC pe_int rfl))))) (pgn 6 sc_law_count.nd)))) pss_n)
    (pss_1 (ps_set' (hu65 hr) (pv 3) (pv 6) (pe_add (pe_ge2 (hu65 hr) (pv 3) (pv 6) (pe_eC pe_int rfl)) (pe_p2 (pu_r _) (pu_r _) (q_sub (pe_sub' (hu65 hr) (pv 1) (pv 4))))))))) pss_n))))))))
    (pss_1 (r_asg (ps_as (pe_p1 (pu_r _) (pe_bt (cr_dictA (hu64 hr)) cv_dict rfl E.n_dict boot_dict' (pa_cons (pv 3) pa_nil))) (pgn 1 sc_law_count.nd))))))))
    (pss_1 (ps_rt (q_sub (pe_sub' (hu65 hr) (pv 1) (pe_eTup pa_nil)))))))
theorem ok_law_count (E : Fs P w K mg base) : FnR P w K mg base (L2N.CX P w) 1 (He.ga K "_law_count") (spF K (TT K) 1 m_law_count) := by
  obtain ⟨fd, F⟩ := E.d_law_count
  exact fnR_of (fn_F F sc_law_count rfl fun cdv A outer s H G EE mk hr => bd_law_count E hr) (F.bindsN fun _ _ _ _ _ _ us hl => match us, hl with | [_], _ => rfl)
theorem bd_law_draw (E : Fs P w K mg base) {cdv : Value} {A : Around} {outer : List Env} {s : Shared} {H G : Hp} {p : Addr} {hp : H p ≠ none} {EE : XK} {mk : MkT (TT K) G} (hr : Room 0 (A.deeper (envOfC "_law_draw" (defScope s_law_draw) s.heap.objs.size (He.ga K "_law_draw") cdv))) :
    PSs (cxOf (L2N.CX P w) P w K mg base N_law_draw "_law_draw" (defScope s_law_draw) (He.ga K "_law_draw") cdv A outer s H EE) (defBody s_law_draw) (tS K (bI K (TT K) G H p hp EE mk) w_law_draw) :=
  (pss_c (ps_set' (hu65 hr) (pv 0) (pe_eC pe_int rfl) (pe_p2 (pu_p _) (pu_c _) (pe_add (pe_p2 (pu_r _) (pu_c _) (q_sub (pe_sub' (hu65 hr) (pv 0) (pe_eC pe_int rfl)))) (pe_eC pe_int rfl))))
    (pss_c (ps_iff (PW.pt (pw_an (pt_p2 (pu_p _) (pu_c _) (tc_eq (hu64 hr) (pe_p2 (pu_r _) (pu_c _) (q_sub (pe_sub' (hu65 hr) (pv 0) (pe_eC pe_int rfl)))) (pe_eC pe_int rfl))) (pw_and1 (pt_p2 (pu_p _) (pu_p _) (tc_lt (pe_p2 (pu_r _) (pu_c _) (q_sub (pe_sub' (hu65 hr) (pv 0) (pe_eC pe_int rfl)))) (pe_p1 (pu_p _) (q_len (pe_bi cr_lenA cv_len rfl E.n_len boot_len (pa_cons (pe_p2 (pu_r _) (pu_c _) (q_sub (pe_sub' (hu65 hr) (pv 0) (pe_eC pe_int rfl)))) pa_nil))))))))) (pss_c (r_asg (ps_as (pe_p2 (pu_p _) (pu_p _) (q_sub (pe_sub' (hu65 hr) (pe_p2 (pu_r _) (pu_c _) (q_sub (pe_sub' (hu65 hr) (pv 0) (pe_eC pe_int rfl)))) (pe_p2 (pu_r _) (pu_c _) (q_sub (pe_sub' (hu65 hr) (pv 0) (pe_eC pe_int rfl))))))) (pgn 2 sc_law_draw.nd)))
    (pss_c (ps_set' (hu65 hr) (pv 0) (pe_eC pe_int rfl) (pe_p2 (pu_p _) (pu_c _) (pe_add (pe_p2 (pu_r _) (pu_c _) (q_sub (pe_sub' (hu65 hr) (pv 0) (pe_eC pe_int rfl)))) (pe_eC pe_int rfl))))
    (pss_1 (ps_iff (pt_p2 (pu_r _) (pu_p _) (tc_ge (pv 2) (pe_p2 (pu_c _) (pu_c _) (pe_pow (pe_eC pe_int rfl) (pe_eC pe_int rfl))))) (pss_c (ps_set' (hu65 hr) (pv 0) (pe_eC pe_int rfl) (pe_eVarR (pv 2)))
    (pss_1 (ps_set' (hu65 hr) (pv 0) (pe_eC pe_int rfl) (pe_eC pe_int rfl)))) (pss_1 (ps_set' (hu65 hr) (pv 0) (pe_eC pe_int rfl) (pe_p2 (pu_p _) (pu_c _) (pe_mod (pe_p1 (pu_p _) (pe_bt cr_intA cv_int rfl E.n_int boot_int' (pa_cons (pe_p2 (pu_p _) (pu_c _) (pe_add (pe_p2 (pu_p _) (pu_p _) (pe_add (pe_p2 (pu_p _) (pu_c _) (pe_mul (pe_p2 (pu_r _) (pu_c _) (q_sub (pe_sub' (hu65 hr) (pv 0) (pe_eC pe_int rfl)))) (pe_eC pe_int rfl))) (pe_p2 (pu_p _) (pu_c _) (pe_mul (pe_p2 (pu_p _) (pu_c _) (pe_mod (pe_p1 (pu_r _) (pe_bt cr_intA cv_int rfl E.n_int boot_int' (pa_cons (pv 2) pa_nil))) (pe_eC pe_int rfl))) (pe_eC pe_int rfl))))) (pe_eC pe_int rfl))) pa_nil))) (pe_eC pe_int rfl))))))))) pss_n)
    (pss_c (ps_iff (pt_p2 (pu_p _) (pu_c _) (tc_gt (pe_p2 (pu_r _) (pu_c _) (q_sub (pe_sub' (hu65 hr) (pv 0) (pe_eC pe_int rfl)))) (pe_eC pe_int rfl))) (pss_c (r_asg (ps_as (pe_p2 (pu_p _) (pu_r _) (pe_mod (pe_p1 (pu_p _) (pe_bt cr_intA cv_int rfl E.n_int boot_int' (pa_cons (pe_p2 (pu_r _) (pu_c _) (q_sub (pe_sub' (hu65 hr) (pv 0) (pe_eC pe_int rfl)))) pa_nil))) (pv 1))) (pgn 3 sc_law_draw.nd)))
    (pss_c (ps_set' (hu65 hr) (pv 0) (pe_eC pe_int rfl) (pe_p2 (pu_p _) (pu_r _) (pe_div (pe_p2 (pu_r _) (pu_c _) (q_sub (pe_sub' (hu65 hr) (pv 0) (pe_eC pe_int rfl)))) (pv 1))))
    (pss_c (ps_set' (hu65 hr) (pv 0) (pe_eC pe_int rfl) (pe_if (pt_p2 (pu_p _) (pu_c _) (tc_gt (pe_p2 (pu_r _) (pu_c _) (q_sub (pe_sub' (hu65 hr) (pv 0) (pe_eC pe_int rfl)))) (pe_eC pe_int rfl))) (pe_p2 (pu_p _) (pu_c _) (pe_sub (pe_p2 (pu_r _) (pu_c _) (q_sub (pe_sub' (hu65 hr) (pv 0) (pe_eC pe_int rfl)))) (pe_eC pe_int rfl))) (pe_eC pe_int rfl)))
    (pss_1 (r_retV (ps_rtV (pv 3))))))) pss_n)
    (pss_c (ps_set' (hu65 hr) (pv 0) (pe_eC pe_int rfl) (pe_p2 (pu_p _) (pu_c _) (pe_mod (pe_p1 (pu_p _) (pe_bt cr_intA cv_int rfl E.n_int boot_int' (pa_cons (pe_p2 (pu_p _) (pu_c _) (pe_add (pe_p2 (pu_p _) (pu_p _) (pe_add (pe_p2 (pu_p _) (pu_c _) (pe_pow (pe_p2 (pu_r _) (pu_c _) (q_sub (pe_sub' (hu65 hr) (pv 0) (pe_eC pe_int rfl)))) (pe_eC pe_int rfl))) (pe_p2 (pu_p _) (pu_c _) (pe_mul (pe_p2 (pu_r _) (pu_c _) (q_sub (pe_sub' (hu65 hr) (pv 0) (pe_eC pe_int rfl)))) (pe_eC pe_int rfl))))) (pe_eC pe_int rfl))) pa_nil))) (pe_eC pe_int rfl))))
    (pss_1 (ps_rt (pe_p2 (pu_p _) (pu_r _) (pe_mod (pe_p1 (pu_p _) (pe_bt cr_intA cv_int rfl E.n_int boot_int' (pa_cons (pe_p2 (pu_p _) (pu_p _) (pe_add (pe_p2 (pu_p _) (pu_c _) (pe_div (pe_p2 (pu_r _) (pu_c _) (q_sub (pe_sub' (hu65 hr) (pv 0) (pe_eC pe_int rfl)))) (pe_eC pe_int rfl))) (pe_p2 (pu_p _) (pu_c _) (pe_mul (pe_p2 (pu_p _) (pu_c _) (pe_mod (pe_p1 (pu_p _) (pe_bt cr_intA cv_int rfl E.n_int boot_int' (pa_cons (pe_p2 (pu_r _) (pu_c _) (q_sub (pe_sub' (hu65 hr) (pv 0) (pe_eC pe_int rfl)))) pa_nil))) (pe_eC pe_int rfl))) (pe_eC pe_int rfl))))) pa_nil))) (pv 1)))))))))
theorem ok_law_draw (E : Fs P w K mg base) : FnR P w K mg base (L2N.CX P w) 1 (He.ga K "_law_draw") (spI K (TT K) 2 m_law_draw) := by
  obtain ⟨fd, F⟩ := E.d_law_draw
  exact fnR_of (fn_I F sc_law_draw rfl fun cdv A outer s H G p hp EE mk hr => bd_law_draw E hr) (F.bindsN fun _ _ _ _ _ _ us hl => match us, hl with | [_, _], _ => rfl)
theorem bd_law_jar (E : Fs P w K mg base) {cdv : Value} {A : Around} {outer : List Env} {s : Shared} {H G : Hp} {EE : XK} {mk : MkT (TT K) G} (hr : Room 0 (A.deeper (envOfC "_law_jar" (defScope s_law_jar) s.heap.objs.size (He.ga K "_law_jar") cdv))) :
    PSs (cxOf (L2N.CX P w) P w K mg base N_law_jar "_law_jar" (defScope s_law_jar) (He.ga K "_law_jar") cdv A outer s H EE) (defBody s_law_jar) (tS K (b0 K (TT K) G H EE mk) w_law_jar) :=
  (pss_c (r_asg (ps_as (pe_eC pe_int rfl) (pgn 1 sc_law_jar.nd)))
    (pss_c (r_for (ps_fo (passes_of rfl) rfl (pi_seq (pe_sl (pv 0) po_no (po_so (pe_eC pe_int rfl)))) (pgn 2 sc_law_jar.nd) (pss_1 (r_asg (ps_as (pe_p2 (pu_p _) (pu_c _) (pe_mod (pe_p1 (pu_p _) (pe_bt cr_intA cv_int rfl E.n_int boot_int' (pa_cons (pe_p2 (pu_p _) (pu_c _) (pe_add (pe_p2 (pu_p _) (pu_p _) (pe_add (pe_p2 (pu_r _) (pu_c _) (pe_mul (pv 1) (pe_eC pe_int rfl))) (pe_p2 (pu_p _) (pu_c _) (pe_mod (pe_p1 (pu_r _) (pe_bt cr_intA cv_int rfl E.n_int boot_int' (pa_cons (pv 2) pa_nil))) (pe_eC pe_int rfl))))) (pe_eC pe_int rfl))) pa_nil))) (pe_eC pe_int rfl))) (pgn 1 sc_law_jar.nd))))))
    (pss_1 (ps_rt (pe_eLst (pa_cons (pe_bt call_list_of cv_list rfl E.n_list boot_list' (pa_cons (pe_sl (pv 0) po_no (po_so (pe_eC pe_int rfl))) pa_nil)) (pa_cons (pe_eC pe_int rfl) (pa_cons (pe_eC pe_int rfl) (pa_cons (pe_eC pe_int rfl) (pa_cons (pe_eVarR (pv 1)) (pa_cons (pe_eC pe_int rfl) pa_nil)))))))))))
theorem ok_law_jar (E : Fs P w K mg base) : FnR P w K mg base (L2N.CX P w) 1 (He.ga K "_law_jar") (spF K (TT K) 1 m_law_jar) := by
  obtain ⟨fd, F⟩ := E.d_law_jar
  exact fnR_of (fn_F F sc_law_jar rfl fun cdv A outer s H G EE mk hr => bd_law_jar E hr) (F.bindsN fun _ _ _ _ _ _ us hl => match us, hl with | [_], _ => rfl)
theorem bd_law_like (E : Fs P w K mg base) {k : Nat} (hk : 0 ≤ k) {rc : FM} (R : FnR P w K mg base (L2N.CX P w) k (He.ga K "_law_like") (spF K (TT K) 2 rc)) {cdv : Value} {A : Around} {outer : List Env} {s : Shared} {H G : Hp} {EE : XK} {mk : MkT (TT K) G} (hr : Room k (A.deeper (envOfC "_law_like" (defScope s_law_like) s.heap.objs.size (He.ga K "_law_like") cdv))) :
    PSs (cxOf (L2N.CX P w) P w K mg base N_law_like "_law_like" (defScope s_law_like) (He.ga K "_law_like") cdv A outer s H EE) (defBody s_law_like) (tS K (b0 K (TT K) G H EE mk) (w_law_like rc)) :=
  (pss_c (ps_iff (pt_tru (pe_is1 E.isa rfl E.n_isinstance (pv 1) (pe_ty' rfl E.n_bool boot_bool'))) (pss_1 (ps_rt (pe_andV (pe_is1 E.isa rfl E.n_isinstance (pv 0) (pe_ty' rfl E.n_bool boot_bool')) (pe_one (pe_p2 (pu_r _) (pu_r _) (pe_eq (hu64 hr) (pv 0) (pv 1))))))) pss_n)
    (pss_c (ps_iff (pt_tru (pe_is1 E.isa rfl E.n_isinstance (pv 1) (pe_ty' rfl E.n_int boot_int'))) (pss_1 (ps_rt (pe_andV (pe_is1 E.isa rfl E.n_isinstance (pv 0) (pe_ty' rfl E.n_int boot_int')) (pe_andV (pe_notV (pe_is1 E.isa rfl E.n_isinstance (pv 0) (pe_ty' rfl E.n_bool boot_bool'))) (pe_one (pe_p2 (pu_r _) (pu_r _) (pe_eq (hu64 hr) (pv 0) (pv 1)))))))) pss_n)
    (pss_c (ps_iff (pt_tru (pe_is1 E.isa rfl E.n_isinstance (pv 1) (pe_ty' rfl E.n_str boot_str'))) (pss_1 (ps_rt (pe_andV (pe_is1 E.isa rfl E.n_isinstance (pv 0) (pe_ty' rfl E.n_str boot_str')) (pe_one (pe_p2 (pu_r _) (pu_r _) (pe_eq (hu64 hr) (pv 0) (pv 1))))))) pss_n)
    (pss_c (ps_iff (PW.pt (pw_oo (pt_tru (pe_is1 E.isa rfl E.n_isinstance (pv 1) (pe_ty' rfl E.n_list boot_list'))) (pw_or1 (pt_tru (pe_is1 E.isa rfl E.n_isinstance (pv 1) (pe_ty' rfl E.n_tuple boot_tuple')))))) (pss_c (ps_iff (PW.pt (pw_oo (tc_ne (hu64 hr) (pe_is1 E.isa rfl E.n_isinstance (pv 0) (pe_ty' rfl E.n_list boot_list')) (pe_is1 E.isa rfl E.n_isinstance (pv 1) (pe_ty' rfl E.n_list boot_list'))) (pw_oo (tc_ne (hu64 hr) (pe_is1 E.isa rfl E.n_isinstance (pv 0) (pe_ty' rfl E.n_tuple boot_tuple')) (pe_is1 E.isa rfl E.n_isinstance (pv 1) (pe_ty' rfl E.n_tuple boot_tuple'))) (pw_or1 (pt_p2 (pu_p _) (pu_p _) (tc_ne (hu64 hr) (pe_p1 (pu_r _) (q_len (pe_bi cr_lenA cv_len rfl E.n_len boot_len (pa_cons (pv 0) pa_nil)))) (pe_p1 (pu_r _) (q_len (pe_bi cr_lenA cv_len rfl E.n_len boot_len (pa_cons (pv 1) pa_nil)))))))))) (pss_1 (ps_rt (pe_eC pe_bl rfl))) pss_n)
    (pss_c (r_for (ps_fo (passes_of rfl) rfl (pi_r1 rfl E.n_range (pa_cons (pe_p1 (pu_r _) (q_len (pe_bi cr_lenA cv_len rfl E.n_len boot_len (pa_cons (pv 1) pa_nil)))) pa_nil)) (pgn 2 sc_law_like.nd) (pss_1 (ps_iff (pt_no (pt_tru (pe_fCall R hr rfl E.g__law_like (kp_of E.d_law_like) (pa_cons (pe_p2 (pu_r _) (pu_r _) (q_sub (pe_sub' (hu65 hr) (pv 0) (pv 2)))) (pa_cons (pe_p2 (pu_r _) (pu_r _) (q_sub (pe_sub' (hu65 hr) (pv 1) (pv 2)))) pa_nil))))) (pss_1 (ps_rt (pe_eC pe_bl rfl))) pss_n))))
    (pss_1 (ps_rt (pe_eC pe_bl rfl))))) pss_n)
    (pss_1 (ps_rt (pe_andV (pe_p1 (pu_r _) (pe_isN (pv 1))) (pe_one (pe_p1 (pu_r _) (pe_isN (pv 0)))))))))))
theorem ok_law_like (E : Fs P w K mg base) : ∀ n, FnR P w K mg base (L2N.CX P w) (0 + n) (He.ga K "_law_like") (spF K (TT K) 2 (m_law_like n))
  | 0 => fnR_no
  | n + 1 => by
    obtain ⟨fd, F⟩ := E.d_law_like
    exact fnR_of (fn_F F sc_law_like rfl fun cdv A outer s H G EE mk hr => bd_law_like E (Nat.le_add_right _ _) (ok_law_like E n) hr) (F.bindsN fun _ _ _ _ _ _ us hl => match us, hl with | [_, _], _ => rfl)
theorem bd_law_lists (E : Fs P w K mg base) {k : Nat} (hk : 0 ≤ k) {rc : FM} (R : FnR P w K mg base (L2N.CX P w) k (He.ga K "_law_lists") (spF K (TT K) 2 rc)) {cdv : Value} {A : Around} {outer : List Env} {s : Shared} {H G : Hp} {EE : XK} {mk : MkT (TT K) G} (hr : Room k (A.deeper (envOfC "_law_lists" (defScope s_law_lists) s.heap.objs.size (He.ga K "_law_lists") cdv))) :
    PSs (cxOf (L2N.CX P w) P w K mg base N_law_lists "_law_lists" (defScope s_law_lists) (He.ga K "_law_lists") cdv A outer s H EE) (defBody s_law_lists) (tS K (b0 K (TT K) G H EE mk) (w_law_lists rc)) :=
  (pss_c (ps_iff (pt_p2 (pu_r _) (pu_c _) (tc_eq (hu64 hr) (pv 0) (pe_eC pe_int rfl))) (pss_1 (ps_rt (pe_eLst (pa_cons (pe_eTup pa_nil) pa_nil)))) pss_n)
    (pss_c (r_asg (ps_as (pe_eLst pa_nil) (pgn 2 sc_law_lists.nd)))
    (pss_c (r_for (ps_fo (passes_of rfl) rfl (pi_r1 rfl E.n_range (pa_cons (pe_p2 (pu_r _) (pu_r _) (pe_bi (call_min2 rfl) cv_min2 rfl E.n_min boot_min' (pa_cons (pv 0) (pa_cons (pv 1) pa_nil)))) pa_nil)) (pgn 3 sc_law_lists.nd) (pss_c (r_asg (ps_as (pe_p2 (pu_p _) (pu_r _) (pe_sub (pe_p2 (pu_r _) (pu_r _) (pe_bi (call_min2 rfl) cv_min2 rfl E.n_min boot_min' (pa_cons (pv 0) (pa_cons (pv 1) pa_nil)))) (pv 3))) (pgn 4 sc_law_lists.nd)))
    (pss_1 (r_for (ps_fo (passes_of rfl) rfl (pi_seq (pe_fCall R hr rfl E.g__law_lists (kp_of E.d_law_lists) (pa_cons (pe_p2 (pu_r _) (pu_r _) (pe_sub (pv 0) (pv 4))) (pa_cons (pe_eVarR (pv 4)) pa_nil)))) (pgn 5 sc_law_lists.nd) (pss_1 (ps_dr (r_mut (pe_app (pv 2) (pa_cons (pe_add (pe_eTup (pa_cons (pe_eVarR (pv 4)) pa_nil)) (pv 5)) pa_nil)))))))))))
    (pss_1 (r_retV (ps_rtV (pv 2)))))))
theorem ok_law_lists (E : Fs P w K mg base) : ∀ n, FnR P w K mg base (L2N.CX P w) (0 + n) (He.ga K "_law_lists") (spF K (TT K) 2 (m_law_lists n))
  | 0 => fnR_no
  | n + 1 => by
    obtain ⟨fd, F⟩ := E.d_law_lists
    exact fnR_of (fn_F F sc_law_lists rfl fun cdv A outer s H G EE mk hr => bd_law_lists E (Nat.le_add_right _ _) (ok_law_lists E n) hr) (F.bindsN fun _ _ _ _ _ _ us hl => match us, hl with | [_, _], _ => rfl)
theorem bd_law_pick (E : Fs P w K mg base) {cdv : Value} {A : Around} {outer : List Env} {s : Shared} {H G : Hp} {p : Addr} {hp : H p ≠ none} {EE : XK} {mk : MkT (TT K) G} (hr : Room 1 (A.deeper (envOfC "_law_pick" (defScope s_law_pick) s.heap.objs.size (He.ga K "_law_pick") cdv))) :
    PSs (cxOf (L2N.CX P w) P w K mg base N_law_pick "_law_pick" (defScope s_law_pick) (He.ga K "_law_pick") cdv A outer s H EE) (defBody s_law_pick) (tS K (bI K (TT K) G H p hp EE mk) w_law_pick) :=
  (pss_1 (ps_rt (q_sub (pe_sub' (hu65 hr) (pv 1) (pe_fCallI (ok_law_draw E) (hr.mono (by decide)) rfl E.g__law_draw (kp_of E.d_law_draw) (pv 0) (pa_cons (pe_p1 (pu_r _) (q_len (pe_bi cr_lenA cv_len rfl E.n_len boot_len (pa_cons (pv 1) pa_nil)))) pa_nil))))))
theorem ok_law_pick (E : Fs P w K mg base) : FnR P w K mg base (L2N.CX P w) 2 (He.ga K "_law_pick") (spI K (TT K) 2 m_law_pick) := by
  obtain ⟨fd, F⟩ := E.d_law_pick
  exact fnR_of (fn_I F sc_law_pick rfl fun cdv A outer s H G p hp EE mk hr => bd_law_pick E hr) (F.bindsN fun _ _ _ _ _ _ us hl => match us, hl with | [_, _], _ => rfl)
theorem bd_law_classes (E : Fs P w K mg base) {cdv : Value} {A : Around} {outer : List Env} {s : Shared} {H G : Hp} {EE : XK} {pp : Addr × Obj} {dx : Addr} {c : Nat} {mk : MkT ((TT K).hot pp.1 dx c) G} (hh : HotT (L2H.cxH (L2N.CX P w) P w K mg base N_law_classes "_law_classes" (defScope s_law_classes) (He.ga K "_law_classes") cdv A outer s H EE pp) ((TT K).hot pp.1 dx c) pp dx c) (hr : L2H.RoomH 0 (A.deeper (envOfC "_law_classes" (defScope s_law_classes) s.heap.objs.size (He.ga K "_law_classes") cdv))) :
    PSs (L2H.cxH (L2N.CX P w) P w K mg base N_law_classes "_law_classes" (defScope s_law_classes) (He.ga K "_law_classes") cdv A outer s H EE pp) (defBody s_law_classes) (tS K (b0 K ((TT K).hot pp.1 dx c) G H EE mk) w_law_classes) :=
  (pss_c (r_asg (ps_as (pe_eLst (pa_cons (pe_eTup (pa_cons (pe_eC pe_str rfl) (pa_cons (pe_isX hh (E.xi_BadNumber.hot _ _ _) rfl E.n_isinstance (pv 0) (pe_cl' rfl E.g_BadNumber)) pa_nil))) (pa_cons (pe_eTup (pa_cons (pe_eC pe_str rfl) (pa_cons (pe_isX hh (E.xi_BadPoly.hot _ _ _) rfl E.n_isinstance (pv 0) (pe_cl' rfl E.g_BadPoly)) pa_nil))) (pa_cons (pe_eTup (pa_cons (pe_eC pe_str rfl) (pa_cons (pe_isX hh (E.xi_BadTable.hot _ _ _) rfl E.n_isinstance (pv 0) (pe_cl' rfl E.g_BadTable)) pa_nil))) (pa_cons (pe_eTup (pa_cons (pe_eC pe_str rfl) (pa_cons (pe_isX hh (E.xi_BadSaying.hot _ _ _) rfl E.n_isinstance (pv 0) (pe_cl' rfl E.g_BadSaying)) pa_nil))) (pa_cons (pe_eTup (pa_cons (pe_eC pe_str rfl) (pa_cons (pe_isX hh (E.xi_BadShape.hot _ _ _) rfl E.n_isinstance (pv 0) (pe_cl' rfl E.g_BadShape)) pa_nil))) (pa_cons (pe_eTup (pa_cons (pe_eC pe_str rfl) (pa_cons (pe_isX hh (E.xi_BadShuffle.hot _ _ _) rfl E.n_isinstance (pv 0) (pe_cl' rfl E.g_BadShuffle)) pa_nil))) (pa_cons (pe_eTup (pa_cons (pe_eC pe_str rfl) (pa_cons (pe_isX hh (E.xi_BadMix.hot _ _ _) rfl E.n_isinstance (pv 0) (pe_cl' rfl E.g_BadMix)) pa_nil))) (pa_cons (pe_eTup (pa_cons (pe_eC pe_str rfl) (pa_cons (pe_isX hh (E.xi_BadMarks.hot _ _ _) rfl E.n_isinstance (pv 0) (pe_cl' rfl E.g_BadMarks)) pa_nil))) (pa_cons (pe_eTup (pa_cons (pe_eC pe_str rfl) (pa_cons (pe_isX hh (E.xi_BadCrest.hot _ _ _) rfl E.n_isinstance (pv 0) (pe_cl' rfl E.g_BadCrest)) pa_nil))) (pa_cons (pe_eTup (pa_cons (pe_eC pe_str rfl) (pa_cons (pe_isX hh (E.xi_BadField.hot _ _ _) rfl E.n_isinstance (pv 0) (pe_cl' rfl E.g_BadField)) pa_nil))) (pa_cons (pe_eTup (pa_cons (pe_eC pe_str rfl) (pa_cons (pe_isX hh (E.xi_BadSpan.hot _ _ _) rfl E.n_isinstance (pv 0) (pe_cl' rfl E.g_BadSpan)) pa_nil))) (pa_cons (pe_eTup (pa_cons (pe_eC pe_str rfl) (pa_cons (pe_isX hh (E.xi_BadCoordinates.hot _ _ _) rfl E.n_isinstance (pv 0) (pe_cl' rfl E.g_BadCoordinates)) pa_nil))) (pa_cons (pe_eTup (pa_cons (pe_eC pe_str rfl) (pa_cons (pe_isX hh (E.xi_BadEquation.hot _ _ _) rfl E.n_isinstance (pv 0) (pe_cl' rfl E.g_BadEquation)) pa_nil))) (pa_cons (pe_eTup (pa_cons (pe_eC pe_str rfl) (pa_cons (pe_isX hh (E.xi_BadScript.hot _ _ _) rfl E.n_isinstance (pv 0) (pe_cl' rfl E.g_BadScript)) pa_nil))) (pa_cons (pe_eTup (pa_cons (pe_eC pe_str rfl) (pa_cons (pe_isX hh (E.xi_EqualMarks.hot _ _ _) rfl E.n_isinstance (pv 0) (pe_cl' rfl E.g_EqualMarks)) pa_nil))) (pa_cons (pe_eTup (pa_cons (pe_eC pe_str rfl) (pa_cons (pe_isX hh (E.xi_NotTrim.hot _ _ _) rfl E.n_isinstance (pv 0) (pe_cl' rfl E.g_NotTrim)) pa_nil))) (pa_cons (pe_eTup (pa_cons (pe_eC pe_str rfl) (pa_cons (pe_isX hh (E.xi_NotReal.hot _ _ _) rfl E.n_isinstance (pv 0) (pe_cl' rfl E.g_NotReal)) pa_nil))) (pa_cons (pe_eTup (pa_cons (pe_eC pe_str rfl) (pa_cons (pe_isX hh (E.xi_Unlike.hot _ _ _) rfl E.n_isinstance (pv 0) (pe_cl' rfl E.g_Unlike)) pa_nil))) (pa_cons (pe_eTup (pa_cons (pe_eC pe_str rfl) (pa_cons (pe_isX hh (E.xi_TooMany.hot _ _ _) rfl E.n_isinstance (pv 0) (pe_cl' rfl E.g_TooMany)) pa_nil))) (pa_cons (pe_eTup (pa_cons (pe_eC pe_str rfl) (pa_cons (pe_isX hh (E.xi_NoSuch.hot _ _ _) rfl E.n_isinstance (pv 0) (pe_cl' rfl E.g_NoSuch)) pa_nil))) (pa_cons (pe_eTup (pa_cons (pe_eC pe_str rfl) (pa_cons (pe_isX hh (E.xi_Ended.hot _ _ _) rfl E.n_isinstance (pv 0) (pe_cl' rfl E.g_Ended)) pa_nil))) (pa_cons (pe_eTup (pa_cons (pe_eC pe_str rfl) (pa_cons (pe_isX hh (E.xi_Unreadable.hot _ _ _) rfl E.n_isinstance (pv 0) (pe_cl' rfl E.g_Unreadable)) pa_nil))) (pa_cons (pe_eTup (pa_cons (pe_eC pe_str rfl) (pa_cons (pe_isX hh (E.xi_Refusal.hot _ _ _) rfl E.n_isinstance (pv 0) (pe_cl' rfl E.g_Refusal)) pa_nil))) (pa_cons (pe_eTup (pa_cons (pe_eC pe_str rfl) (pa_cons (pe_isX hh (E.xi_ValueError.hot _ _ _) rfl E.n_isinstance (pv 0) (pe_ty' rfl E.n_ValueError boot_ValueError')) pa_nil))) (pa_cons (pe_eTup (pa_cons (pe_eC pe_str rfl) (pa_cons (pe_isX hh (E.xi_LookupError.hot _ _ _) rfl E.n_isinstance (pv 0) (pe_ty' rfl E.n_LookupError boot_LookupError')) pa_nil))) (pa_cons (pe_eTup (pa_cons (pe_eC pe_str rfl) (pa_cons (pe_isX hh (E.xi_RuntimeError.hot _ _ _) rfl E.n_isinstance (pv 0) (pe_ty' rfl E.n_RuntimeError boot_RuntimeError')) pa_nil))) pa_nil))))))))))))))))))))))))))) (pgn 1 sc_law_classes.nd)))
    (pss_1 (ps_rt (pe_coZ (own := [("tag", 2), ("yes", 3)]) hh sc_law_classes.nd (pe_eVarR (pv 1)) (blk_of (by kernel_rfl)) (inn_of rfl) (fun _ _ _ _ _ zz _ _ _ => (pg_tZ zz (pgs_c (pgn 2 sc_law_classes.nd) (pgs_c (pgn 3 sc_law_classes.nd) pgs_n)) rfl)) (fun _ _ _ _ _ _ _ _ => (pts_1 (pt_tru (pv 3)))) (fun _ _ _ _ _ _ _ _ => (pe_eVarR (pv 2)))))))
theorem ok_law_classes (E : Fs P w K mg base) : FnHR P w K mg base (L2N.CX P w) 1 (He.ga K "_law_classes") (spH K (TT K) 1 m_law_classes) := by
  obtain ⟨fd, F⟩ := E.d_law_classes
  exact fn_H F sc_law_classes (F.bindsN fun _ _ _ _ _ _ us hl => match us, hl with | [_], _ => rfl) rfl fun cdv A outer s H G EE pp dx c mk hh hr => bd_law_classes E hh hr
theorem bd_law_parts_of (E : Fs P w K mg base) {cdv : Value} {A : Around} {outer : List Env} {s : Shared} {H G : Hp} {EE : XK} {pp : Addr × Obj} {dx : Addr} {c : Nat} {mk : MkT ((TT K).hot pp.1 dx c) G} (hh : HotT (L2H.cxH (L2N.CX P w) P w K mg base N_law_parts_of "_law_parts_of" (defScope s_law_parts_of) (He.ga K "_law_parts_of") cdv A outer s H EE pp) ((TT K).hot pp.1 dx c) pp dx c) (hr : L2H.RoomH 1 (A.deeper (envOfC "_law_parts_of" (defScope s_law_parts_of) s.heap.objs.size (He.ga K "_law_parts_of") cdv))) :
    PSs (L2H.cxH (L2N.CX P w) P w K mg base N_law_parts_of "_law_parts_of" (defScope s_law_parts_of) (He.ga K "_law_parts_of") cdv A outer s H EE pp) (defBody s_law_parts_of) (tS K (b0 K ((TT K).hot pp.1 dx c) G H EE mk) w_law_parts_of) :=
  (pss_c (r_asg (ps_as (pe_fCallH hh rfl (ok_law_classes E) (hr.mono (by decide)) rfl E.g__law_classes (kp_of E.d_law_classes) (pa_cons (pe_eVarR (pv 0)) pa_nil)) (pgn 1 sc_law_parts_of.nd)))
    (pss_c (r_asg (ps_as (pe_p2 (pu_r _) (pu_c _) (q_sub (pe_sub' (hu65h hr) (pv 1) (pe_eC pe_int rfl)))) (pgn 2 sc_law_parts_of.nd)))
    (pss_c (r_asg (ps_as (pe_eLst (pa_cons (pe_eC pe_str rfl) (pa_cons (pe_eC pe_str rfl) pa_nil))) (pgn 3 sc_law_parts_of.nd)))
    (pss_c (ps_iff (tc_in (hu65h hr) (pv 2) (pe_eLst (pa_cons (pe_eC pe_str rfl) (pa_cons (pe_eC pe_str rfl) (pa_cons (pe_eC pe_str rfl) (pa_cons (pe_eC pe_str rfl) pa_nil))))) (by rfl)) (pss_1 (r_asg (ps_as (pe_eLst (pa_cons (pe_xfZ hh (E.xf_line.hot _ _ _) (pv 0)) pa_nil)) (pgn 4 sc_law_parts_of.nd)))) (pss_1 (ps_iff (tc_eq (hu64h hr) (pe_sl (pv 2) po_no (po_so (pe_eC pe_int rfl))) (pe_eC pe_str rfl)) (pss_1 (r_asg (ps_as (pe_eLst (pa_cons (pe_xfZ hh (E.xf_at.hot _ _ _) (pv 0)) pa_nil)) (pgn 4 sc_law_parts_of.nd)))) (pss_1 (ps_iff (pt_p2 (pu_r _) (pu_c _) (tc_eq (hu64h hr) (pv 2) (pe_eC pe_str rfl))) (pss_1 (r_asg (ps_as (pe_eLst (pa_cons (pe_xfZ hh (E.xf_first.hot _ _ _) (pv 0)) (pa_cons (pe_xfZ hh (E.xf_second.hot _ _ _) (pv 0)) pa_nil))) (pgn 4 sc_law_parts_of.nd)))) (pss_1 (ps_iff (pt_p2 (pu_r _) (pu_c _) (tc_eq (hu64h hr) (pv 2) (pe_eC pe_str rfl))) (pss_1 (r_asg (ps_as (pe_eLst (pa_cons (pe_xfZ hh (E.xf_rows.hot _ _ _) (pv 0)) pa_nil)) (pgn 4 sc_law_parts_of.nd)))) (pss_1 (ps_iff (pt_p2 (pu_r _) (pu_c _) (tc_eq (hu64h hr) (pv 2) (pe_eC pe_str rfl))) (pss_1 (r_asg (ps_as (pe_eLst (pa_cons (pe_xfZ hh (E.xf_found.hot _ _ _) (pv 0)) pa_nil)) (pgn 4 sc_law_parts_of.nd)))) (pss_1 (ps_iff (pt_p2 (pu_r _) (pu_c _) (tc_eq (hu64h hr) (pv 2) (pe_eC pe_str rfl))) (pss_1 (r_asg (ps_as (pe_eLst (pa_cons (pe_xfZ hh (E.xf_what.hot _ _ _) (pv 0)) (pa_cons (pe_xfZ hh (E.xf_count.hot _ _ _) (pv 0)) pa_nil))) (pgn 4 sc_law_parts_of.nd)))) (pss_1 (ps_iff (pt_p2 (pu_r _) (pu_c _) (tc_eq (hu64h hr) (pv 2) (pe_eC pe_str rfl))) (pss_c (r_asg (ps_as (pe_eLst (pa_cons (pe_xfZ hh (E.xf_name.hot _ _ _) (pv 0)) pa_nil)) (pgn 4 sc_law_parts_of.nd)))
    (pss_1 (r_asg (ps_as (pe_eLst (pa_cons (pe_eC pe_str rfl) pa_nil)) (pgn 3 sc_law_parts_of.nd))))) (pss_1 (ps_iff (tc_in (hu65h hr) (pv 2) (pe_eLst (pa_cons (pe_eC pe_str rfl) (pa_cons (pe_eC pe_str rfl) pa_nil))) (by rfl)) (pss_1 (r_asg (ps_as (pe_eLst (pa_cons (pe_xfZ hh (E.xf_what.hot _ _ _) (pv 0)) pa_nil)) (pgn 4 sc_law_parts_of.nd)))) (pss_1 (r_asg (ps_as (pe_eLst (pa_cons (pe_eC pe_str rfl) pa_nil)) (pgn 4 sc_law_parts_of.nd)))))))))))))))))))
    (pss_c (ps_iff (pt_p2 (pu_r _) (pu_c _) (tc_eq (hu64h hr) (pv 2) (pe_eC pe_str rfl))) (pss_1 (r_asg (ps_as (pe_eLst (pa_cons (pe_eC pe_str rfl) pa_nil)) (pgn 3 sc_law_parts_of.nd)))) pss_n)
    (pss_c (ps_iff (tc_eq (hu64h hr) (pe_sl (pv 2) po_no (po_so (pe_eC pe_int rfl))) (pe_eC pe_str rfl)) (pss_c (r_asg (ps_as (pe_eLst (pa_cons (pe_eC pe_str rfl) (pa_cons (pe_eC pe_str rfl) (pa_cons (pe_eC pe_str rfl) pa_nil)))) (pgn 3 sc_law_parts_of.nd)))
    (pss_1 (ps_iff (PW.pt (pw_oo (pt_no (pt_tru (pe_is1 (E.isa.hot _ _ _) rfl E.n_isinstance (pe_xfZ hh (E.xf_why.hot _ _ _) (pv 0)) (pe_ty' rfl E.n_str boot_str')))) (pw_or1 (tc_eq (hu64h hr) (pe_xfZ hh (E.xf_why.hot _ _ _) (pv 0)) (pe_eC pe_str rfl))))) (pss_1 (ps_rt (pe_eLst (pa_cons (pe_eC pe_str rfl) pa_nil)))) pss_n))) pss_n)
    (pss_1 (ps_rt (pe_if (tc_eq (hu64h hr) (pe_sl (pv 1) (po_so (pe_eC pe_int rfl)) po_no) (pv 3)) (pe_add (pe_eLst (pa_cons (pe_eVarR (pv 2)) pa_nil)) (pv 4)) (pe_eLst (pa_cons (pe_eC pe_str rfl) pa_nil)))))))))))
theorem ok_law_parts_of (E : Fs P w K mg base) : FnHR P w K mg base (L2N.CX P w) 2 (He.ga K "_law_parts_of") (spH K (TT K) 1 m_law_parts_of) := by
  obtain ⟨fd, F⟩ := E.d_law_parts_of
  exact fn_H F sc_law_parts_of (F.bindsN fun _ _ _ _ _ _ us hl => match us, hl with | [_], _ => rfl) rfl fun cdv A outer s H G EE pp dx c mk hh hr => bd_law_parts_of E hh hr
theorem bd_law_tried (E : Fs P w K mg base) {cdv : Value} {A : Around} {outer : List Env} {s : Shared} {H G : Hp} {EE : XK} {fl : Addr} {good : Hp → Prop} {gm} {r : FR} {mk : MkT ((TT K).lam fl good gm) G} (LA : LamAt P w K mg base (TT K) 7 fl good r outer s.heap H) (hr : Room 7 (A.deeper (envOfC "_law_tried" (defScope s_law_tried) s.heap.objs.size (He.ga K "_law_tried") cdv))) :
    PSs (cxOf (L2N.CX P w) P w K mg base N_law_tried "_law_tried" (defScope s_law_tried) (He.ga K "_law_tried") cdv A outer s H EE) (defBody s_law_tried) (tS K (b0 K ((TT K).lam fl good gm) G H EE mk) (w_law_tried r)) :=
  (pss_1 (ps_tryF (T0 := TT K) rfl rfl rfl rfl rfl sc_law_tried.nd rfl rfl ⟨rfl, by decide, .inl E.g_Refusal⟩ (okOf_of E.xm_Refusal) (ok_law_parts_of E) (hr.mono (by decide)) rfl E.g__law_parts_of (kp_of E.d_law_parts_of) (fun G wx mk pn xe xk => (pss_1 (ps_rt (pe_eLst (pa_cons (pe_eC pe_str rfl) (pa_cons (pe_lamC rfl LA rfl (hr.mono (by decide)) rfl (by first | exact Or.inl rfl | exact Or.inr (Or.inl rfl))) pa_nil))))))))
theorem ok_law_tried (E : Fs P w K mg base) : FnLR P w K mg base (L2N.CX P w) 8 (He.ga K "_law_tried") (spLm P w K mg base (TT K) 7 1 m_law_tried) := by
  obtain ⟨fd, F⟩ := E.d_law_tried
  exact fn_L F sc_law_tried (F.bindsN fun _ _ _ _ _ _ us hl => match us, hl with | [_], _ => rfl) rfl fun cdv A outer s H G EE fl good gm r mk LA hr => bd_law_tried E LA hr
theorem bd_law_refused (E : Fs P w K mg base) {cdv : Value} {A : Around} {outer : List Env} {s : Shared} {H G : Hp} {EE : XK} {fl : Addr} {good : Hp → Prop} {gm} {r : FR} {mk : MkT ((TT K).lam fl good gm) G} (LA : LamAt P w K mg base (TT K) 7 fl good r outer s.heap H) (hr : Room 8 (A.deeper (envOfC "_law_refused" (defScope s_law_refused) s.heap.objs.size (He.ga K "_law_refused") cdv))) :
    PSs (cxOf (L2N.CX P w) P w K mg base N_law_refused "_law_refused" (defScope s_law_refused) (He.ga K "_law_refused") cdv A outer s H EE) (defBody s_law_refused) (tS K (b0 K ((TT K).lam fl good gm) G H EE mk) (w_law_refused r)) :=
  (pss_1 (ps_rt (pe_fCall (FnR.cv (T' := TT K) rfl rfl rfl (ok_law_like E 4)) (hr.mono (by decide)) rfl E.g__law_like (kp_of E.d_law_like) (pa_cons (pe_fCallL rfl LA rfl rfl rfl (ok_law_tried E) (hr.mono (by decide)) rfl E.g__law_tried (kp_of E.d_law_tried) (pa_cons (pe_eVarR (pv 0)) pa_nil)) (pa_cons (pe_eVarR (pv 1)) pa_nil)))))
theorem ok_law_refused (E : Fs P w K mg base) : FnLR P w K mg base (L2N.CX P w) 9 (He.ga K "_law_refused") (spLm P w K mg base (TT K) 7 2 m_law_refused) := by
  obtain ⟨fd, F⟩ := E.d_law_refused
  exact fn_L F sc_law_refused (F.bindsN fun _ _ _ _ _ _ us hl => match us, hl with | [_, _], _ => rfl) rfl fun cdv A outer s H G EE fl good gm r mk LA hr => bd_law_refused E LA hr
theorem bd_law_shape_text (E : Fs P w K mg base) {cdv : Value} {A : Around} {outer : List Env} {s : Shared} {H G : Hp} {EE : XK} {mk : MkT (TT K) G} (hr : Room 0 (A.deeper (envOfC "_law_shape_text" (defScope s_law_shape_text) s.heap.objs.size (He.ga K "_law_shape_text") cdv))) :
    PSs (cxOf (L2N.CX P w) P w K mg base N_law_shape_text "_law_shape_text" (defScope s_law_shape_text) (He.ga K "_law_shape_text") cdv A outer s H EE) (defBody s_law_shape_text) (tS K (b0 K (TT K) G H EE mk) w_law_shape_text) :=
  (pss_1 (ps_rt (pe_if (tc_ne (hu64 hr) (pv 0) (pe_eTup pa_nil)) (pe_jo (pe_eC pe_str rfl) (r_lc (pe_co (own := [("x", 1)]) rfl sc_law_shape_text.nd (pi_seq (pe_eVarR (pv 0))) (blk_of (by kernel_rfl)) (inn_of rfl) (fun _ _ _ _ _ _ _ _ => (pgn 1 sc_law_shape_text.nd)) (fun _ _ _ _ _ _ _ _ => pts_0) (fun _ _ _ _ _ _ _ _ => (pe_p1 (pu_r _) (pe_bt call_str_int cv_str rfl E.n_str boot_str' (pa_cons (pv 1) pa_nil))))))) (pe_eC pe_str rfl))))
theorem ok_law_shape_text (E : Fs P w K mg base) : FnR P w K mg base (L2N.CX P w) 1 (He.ga K "_law_shape_text") (spF K (TT K) 1 m_law_shape_text) := by
  obtain ⟨fd, F⟩ := E.d_law_shape_text
  exact fnR_of (fn_F F sc_law_shape_text rfl fun cdv A outer s H G EE mk hr => bd_law_shape_text E hr) (F.bindsN fun _ _ _ _ _ _ us hl => match us, hl with | [_], _ => rfl)
theorem bd_law_shape_in (E : Fs P w K mg base) {cdv : Value} {A : Around} {outer : List Env} {s : Shared} {H G : Hp} {p : Addr} {hp : H p ≠ none} {EE : XK} {mk : MkT (TT K) G} (hr : Room 5 (A.deeper (envOfC "_law_shape_in" (defScope s_law_shape_in) s.heap.objs.size (He.ga K "_law_shape_in") cdv))) :
    PSs (cxOf (L2N.CX P w) P w K mg base N_law_shape_in "_law_shape_in" (defScope s_law_shape_in) (He.ga K "_law_shape_in") cdv A outer s H EE) (defBody s_law_shape_in) (tS K (bI K (TT K) G H p hp EE mk) w_law_shape_in) :=
  (pss_c (r_asg (ps_as (pe_fCallI (ok_law_draw E) (hr.mono (by decide)) rfl E.g__law_draw (kp_of E.d_law_draw) (pv 0) (pa_cons (pe_eC pe_int rfl) pa_nil)) (pgn 2 sc_law_shape_in.nd)))
    (pss_c (ps_iff (pt_p2 (pu_r _) (pu_c _) (tc_eq (hu64 hr) (pv 2) (pe_eC pe_int rfl))) (pss_1 (ps_rt (pe_fCall (ok_law_shape_text E) (hr.mono (by decide)) rfl E.g__law_shape_text (kp_of E.d_law_shape_text) (pa_cons (pe_eVarR (pv 1)) pa_nil)))) pss_n)
    (pss_c (ps_iff (pt_p2 (pu_r _) (pu_c _) (tc_eq (hu64 hr) (pv 2) (pe_eC pe_int rfl))) (pss_1 (ps_rt (pe_p1 (pu_r _) (pe_bt call_list_of cv_list rfl E.n_list boot_list' (pa_cons (pv 1) pa_nil))))) pss_n)
    (pss_c (ps_iff (pt_p2 (pu_r _) (pu_c _) (tc_eq (hu64 hr) (pv 2) (pe_eC pe_int rfl))) (pss_1 (ps_rt (pe_p1 (pu_r _) (pe_bt call_tuple_of cv_tuple rfl E.n_tuple boot_tuple' (pa_cons (pv 1) pa_nil))))) pss_n)
    (pss_1 (ps_rt (pe_if (pt_p2 (pu_r _) (pu_c _) (tc_eq (hu64 hr) (pv 2) (pe_eC pe_int rfl))) (pe_mk E.mk_Shape (ok_Shape_init E) (hr.mono (by decide)) rfl E.g_Shape (pa_cons (pe_fCall (ok_law_shape_text E) (hr.mono (by decide)) rfl E.g__law_shape_text (kp_of E.d_law_shape_text) (pa_cons (pe_eVarR (pv 1)) pa_nil)) pa_nil)) (pe_mk E.mk_Shape (ok_Shape_init E) (hr.mono (by decide)) rfl E.g_Shape (pa_cons (pe_p1 (pu_r _) (pe_bt call_list_of cv_list rfl E.n_list boot_list' (pa_cons (pv 1) pa_nil))) pa_nil)))))))))
theorem ok_law_shape_in (E : Fs P w K mg base) : FnR P w K mg base (L2N.CX P w) 6 (He.ga K "_law_shape_in") (spI K (TT K) 2 m_law_shape_in) := by
  obtain ⟨fd, F⟩ := E.d_law_shape_in
  exact fnR_of (fn_I F sc_law_shape_in rfl fun cdv A outer s H G p hp EE mk hr => bd_law_shape_in E hr) (F.bindsN fun _ _ _ _ _ _ us hl => match us, hl with | [_, _], _ => rfl)
theorem bd_law_mixed (E : Fs P w K mg base) {cdv : Value} {A : Around} {outer : List Env} {s : Shared} {H G : Hp} {p : Addr} {hp : H p ≠ none} {EE : XK} {mk : MkT (TT K) G} (hr : Room 1 (A.deeper (envOfC "_law_mixed" (defScope s_law_mixed) s.heap.objs.size (He.ga K "_law_mixed") cdv))) :
    PSs (cxOf (L2N.CX P w) P w K mg base N_law_mixed "_law_mixed" (defScope s_law_mixed) (He.ga K "_law_mixed") cdv A outer s H EE) (defBody s_law_mixed) (tS K (bI K (TT K) G H p hp EE mk) w_law_mixed) :=
  (pss_c (r_asg (ps_as (pe_p1 (pu_r _) (pe_bt call_list_of cv_list rfl E.n_list boot_list' (pa_cons (pv 1) pa_nil))) (pgn 2 sc_law_mixed.nd)))
    (pss_c (r_asg (ps_as (pe_eLst pa_nil) (pgn 3 sc_law_mixed.nd)))
    (pss_c (r_for (ps_fo (passes_of rfl) rfl (pi_r1 rfl E.n_range (pa_cons (pe_p1 (pu_r _) (q_len (pe_bi cr_lenA cv_len rfl E.n_len boot_len (pa_cons (pv 1) pa_nil)))) pa_nil)) (pgn 4 sc_law_mixed.nd) (pss_1 (ps_dr (r_mut (pe_app (pv 3) (pa_cons (r_mut (pe_pop (pv 2) (pa_cons (pe_fCallI (ok_law_draw E) (hr.mono (by decide)) rfl E.g__law_draw (kp_of E.d_law_draw) (pv 0) (pa_cons (pe_p1 (pu_r _) (q_len (pe_bi cr_lenA cv_len rfl E.n_len boot_len (pa_cons (pv 2) pa_nil)))) pa_nil)) pa_nil))) pa_nil)))))))
    (pss_1 (r_retV (ps_rtV (pv 3)))))))
theorem ok_law_mixed (E : Fs P w K mg base) : FnR P w K mg base (L2N.CX P w) 2 (He.ga K "_law_mixed") (spI K (TT K) 2 m_law_mixed) := by
  obtain ⟨fd, F⟩ := E.d_law_mixed
  exact fnR_of (fn_I F sc_law_mixed rfl fun cdv A outer s H G p hp EE mk hr => bd_law_mixed E hr) (F.bindsN fun _ _ _ _ _ _ us hl => match us, hl with | [_, _], _ => rfl)
theorem bd_law_trace (E : Fs P w K mg base) {cdv : Value} {A : Around} {outer : List Env} {s : Shared} {H G : Hp} {EE : XK} {mk : MkT (TT K) G} (hr : Room 0 (A.deeper (envOfC "_law_trace" (defScope s_law_trace) s.heap.objs.size (He.ga K "_law_trace") cdv))) :
    PSs (cxOf (L2N.CX P w) P w K mg base N_law_trace "_law_trace" (defScope s_law_trace) (He.ga K "_law_trace") cdv A outer s H EE) (defBody s_law_trace) (tS K (b0 K (TT K) G H EE mk) w_law_trace) :=
  (pss_c (r_asg (ps_as (pe_p2 (pu_c _) (pu_p _) (pe_bi (call_max2 rfl) cv_max2 rfl E.n_max boot_max' (pa_cons (pe_eC pe_int rfl) (pa_cons (pe_p1 (pu_r _) (q_len (pe_bi cr_lenA cv_len rfl E.n_len boot_len (pa_cons (pv 0) pa_nil)))) pa_nil)))) (pgn 2 sc_law_trace.nd)))
    (pss_c (r_asg (ps_as (pe_di1 (hu1 hr) (fun _ _ _ => (pe_bt call_tuple_of cv_tuple rfl E.n_tuple boot_tuple' (pa_cons (r_lc (pe_co (own := [("i", 7)]) rfl sc_law_trace.nd (pi_r1 rfl E.n_range (pa_cons (pv 2) pa_nil)) (blk_of (by kernel_rfl)) (inn_of rfl) (fun _ _ _ _ _ _ _ _ => (pgn 7 sc_law_trace.nd)) (fun _ _ _ _ _ _ _ _ => pts_0) (fun _ _ _ _ _ _ _ _ => (pe_p2 (pu_p _) (pu_r _) (pe_sub (pe_p2 (pu_r _) (pu_c _) (pe_sub (pv 2) (pe_eC pe_int rfl))) (pv 7)))))) pa_nil))) (fun _ _ _ => (pe_eC pe_int rfl))) (pgn 3 sc_law_trace.nd)))
    (pss_c (r_for (ps_fo (passes_of rfl) rfl (pi_seq (pe_eVarR (pv 1))) (pgn 4 sc_law_trace.nd) (pss_c (r_asg (ps_as pe_d0T (pgn 5 sc_law_trace.nd)))
    (pss_c (r_forK (ps_foK (passes_of rfl) rfl (pv 3) (fun _ _ _ _ => (pgn 6 sc_law_trace.nd)) (fun _ _ _ _ => (pss_1 (r_for (ps_fo (passes_of rfl) rfl (pi_r1 rfl E.n_range (pa_cons (pv 2) pa_nil)) (pgn 7 sc_law_trace.nd) (pss_c (r_asg (ps_as (pe_p2 (pu_p _) (pu_r _) (pe_add (pe_p2 (pu_r _) (pu_r _) (q_sub (pe_sub' (hu65 hr) (pv 6) (pv 7)))) (pv 4))) (pgn 8 sc_law_trace.nd)))
    (pss_1 (ps_iff (pt_p2 (pu_r _) (pu_r _) (tc_nin (hu65 hr) (pv 8) (pv 6) (by rfl))) (pss_c (r_asg (ps_as (q_len (pe_bi cr_lenA cv_len rfl E.n_len boot_len (pa_cons (r_lc (pe_co (own := [("x", 11)]) rfl sc_law_trace.nd (pi_seq (pe_eVarR (pv 6))) (blk_of (by kernel_rfl)) (inn_of rfl) (fun _ _ _ _ _ _ _ _ => (pgn 11 sc_law_trace.nd)) (fun _ _ _ _ _ _ _ _ => (pts_1 (PW.pt (pw_an (pt_p2 (pu_p _) (pu_r _) (tc_lt (pe_p2 (pu_r _) (pu_r _) (q_sub (pe_sub' (hu65 hr) (pv 6) (pv 7)))) (pv 11))) (pw_and1 (pt_p2 (pu_r _) (pu_r _) (tc_lt (pv 11) (pv 8)))))))) (fun _ _ _ _ _ _ _ _ => (pe_eVarR (pv 11))))) pa_nil))) (pgn 9 sc_law_trace.nd)))
    (pss_c (r_asg (ps_as (pe_bt call_tuple_of cv_tuple rfl E.n_tuple boot_tuple' (pa_cons (pe_sortS rfl E.n_sorted (pe_add (pe_add (pe_sl (pv 6) po_no (po_so (pv 7))) (pe_eTup (pa_cons (pe_eVarR (pv 8)) pa_nil))) (pe_sl (pv 6) (po_so (pe_p2 (pu_r _) (pu_c _) (pe_add (pv 7) (pe_eC pe_int rfl)))) po_no)) pe_bl) pa_nil)) (pgn 10 sc_law_trace.nd)))
    (pss_1 (ps_set' (hu65 hr) (pv 5) (pv 10) (pe_add (pe_ge2 (hu65 hr) (pv 5) (pv 10) (pe_eC pe_int rfl)) (pe_p2 (pu_p _) (pu_p _) (pe_mul (pe_p2 (pu_r _) (pu_r _) (q_sub (pe_sub' (hu65 hr) (pv 3) (pv 6)))) (pe_p2 (pu_c _) (pu_p _) (pe_sub (pe_eC pe_int rfl) (pe_p2 (pu_c _) (pu_p _) (pe_mul (pe_eC pe_int rfl) (pe_p2 (pu_p _) (pu_c _) (pe_mod (pe_p1 (pu_r _) (pe_bt cr_intA cv_int rfl E.n_int boot_int' (pa_cons (pv 9) pa_nil))) (pe_eC pe_int rfl)))))))))))))) pss_n)))))))))
    (pss_1 (r_asg (ps_as (pe_p1 (pu_r _) (pe_bt (cr_dictA (hu64 hr)) cv_dict rfl E.n_dict boot_dict' (pa_cons (pv 5) pa_nil))) (pgn 3 sc_law_trace.nd))))))))
    (pss_1 (ps_rt (pe_ge2 (hu65 hr) (pv 3) (pe_bt call_tuple_of cv_tuple rfl E.n_tuple boot_tuple' (pa_cons (r_lc (pe_co (own := [("i", 7)]) rfl sc_law_trace.nd (pi_r1 rfl E.n_range (pa_cons (pv 2) pa_nil)) (blk_of (by kernel_rfl)) (inn_of rfl) (fun _ _ _ _ _ _ _ _ => (pgn 7 sc_law_trace.nd)) (fun _ _ _ _ _ _ _ _ => pts_0) (fun _ _ _ _ _ _ _ _ => (pe_sub (pe_sub (pe_add (pe_if (pt_p2 (pu_r _) (pu_p _) (tc_lt (pv 7) (pe_p1 (pu_r _) (q_len (pe_bi cr_lenA cv_len rfl E.n_len boot_len (pa_cons (pv 0) pa_nil)))))) (pe_p2 (pu_r _) (pu_r _) (q_sub (pe_sub' (hu65 hr) (pv 0) (pv 7)))) (pe_eC pe_int rfl)) (pv 2)) (pe_eC pe_int rfl)) (pv 7))))) pa_nil)) (pe_eC pe_int rfl)))))))
theorem ok_law_trace (E : Fs P w K mg base) : FnR P w K mg base (L2N.CX P w) 1 (He.ga K "_law_trace") (spF K (TT K) 2 m_law_trace) := by
  obtain ⟨fd, F⟩ := E.d_law_trace
  exact fnR_of (fn_F F sc_law_trace rfl fun cdv A outer s H G EE mk hr => bd_law_trace E hr) (F.bindsN fun _ _ _ _ _ _ us hl => match us, hl with | [_, _], _ => rfl)
theorem bd_law_turned (E : Fs P w K mg base) {cdv : Value} {A : Around} {outer : List Env} {s : Shared} {H G : Hp} {EE : XK} {mk : MkT (TT K) G} (hr : Room 0 (A.deeper (envOfC "_law_turned" (defScope s_law_turned) s.heap.objs.size (He.ga K "_law_turned") cdv))) :
    PSs (cxOf (L2N.CX P w) P w K mg base N_law_turned "_law_turned" (defScope s_law_turned) (He.ga K "_law_turned") cdv A outer s H EE) (defBody s_law_turned) (tS K (b0 K (TT K) G H EE mk) w_law_turned) :=
  (pss_1 (ps_rt (pe_if (tc_ne (hu64 hr) (pv 0) (pe_eTup pa_nil)) (pe_bt call_tuple_of cv_tuple rfl E.n_tuple boot_tuple' (pa_cons (r_lc (pe_co (own := [("j", 1)]) rfl sc_law_turned.nd (pi_r1 rfl E.n_range (pa_cons (pe_p2 (pu_r _) (pu_c _) (q_sub (pe_sub' (hu65 hr) (pv 0) (pe_eC pe_int rfl)))) pa_nil)) (blk_of (by kernel_rfl)) (inn_of rfl) (fun _ _ _ _ _ _ _ _ => (pgn 1 sc_law_turned.nd)) (fun _ _ _ _ _ _ _ _ => pts_0) (fun _ _ _ _ _ _ _ _ => (q_len (pe_bi cr_lenA cv_len rfl E.n_len boot_len (pa_cons (r_lc (pe_co (own := [("x", 2)]) rfl sc_law_turned.nd (pi_seq (pe_eVarR (pv 0))) (blk_of (by kernel_rfl)) (inn_of rfl) (fun _ _ _ _ _ _ _ _ => (pgn 2 sc_law_turned.nd)) (fun _ _ _ _ _ _ _ _ => (pts_1 (pt_p2 (pu_r _) (pu_r _) (tc_gt (pv 2) (pv 1))))) (fun _ _ _ _ _ _ _ _ => (pe_eVarR (pv 2))))) pa_nil)))))) pa_nil)) (pe_eTup pa_nil))))
theorem ok_law_turned (E : Fs P w K mg base) : FnR P w K mg base (L2N.CX P w) 1 (He.ga K "_law_turned") (spF K (TT K) 1 m_law_turned) := by
  obtain ⟨fd, F⟩ := E.d_law_turned
  exact fnR_of (fn_F F sc_law_turned rfl fun cdv A outer s H G EE mk hr => bd_law_turned E hr) (F.bindsN fun _ _ _ _ _ _ us hl => match us, hl with | [_], _ => rfl)
theorem bd_law_trace_told (E : Fs P w K mg base) {cdv : Value} {A : Around} {outer : List Env} {s : Shared} {H G : Hp} {p : Addr} {hp : H p ≠ none} {EE : XK} {mk : MkT (TT K) G} (hr : Room 6 (A.deeper (envOfC "_law_trace_told" (defScope s_law_trace_told) s.heap.objs.size (He.ga K "_law_trace_told") cdv))) :
    PSs (cxOf (L2N.CX P w) P w K mg base N_law_trace_told "_law_trace_told" (defScope s_law_trace_told) (He.ga K "_law_trace_told") cdv A outer s H EE) (defBody s_law_trace_told) (tS K (bI K (TT K) G H p hp EE mk) w_law_trace_told) :=
  (pss_c (r_asg (ps_as (pe_fCall (ok_law_trace E) (hr.mono (by decide)) rfl E.g__law_trace (kp_of E.d_law_trace) (pa_cons (pe_eVarR (pv 1)) (pa_cons (pe_eVarR (pv 2)) pa_nil))) (pgn 3 sc_law_trace_told.nd)))
    (pss_c (r_asg (ps_as (pe_if (tc_eq (hu64 hr) (pe_mod (pe_bt cr_intA cv_int rfl E.n_int boot_int' (pa_cons (q_len (pe_bi cr_lenA cv_len rfl E.n_len boot_len (pa_cons (r_lc (pe_co (own := [("x", 8)]) rfl sc_law_trace_told.nd (pi_seq (pe_eVarR (pv 2))) (blk_of (by kernel_rfl)) (inn_of rfl) (fun _ _ _ _ _ _ _ _ => (pgn 8 sc_law_trace_told.nd)) (fun _ _ _ _ _ _ _ _ => (pts_1 (pt_p2 (pu_p _) (pu_c _) (tc_eq (hu64 hr) (pe_p2 (pu_p _) (pu_c _) (pe_mod (pe_p1 (pu_r _) (pe_bt cr_intA cv_int rfl E.n_int boot_int' (pa_cons (pv 8) pa_nil))) (pe_eC pe_int rfl))) (pe_eC pe_int rfl))))) (fun _ _ _ _ _ _ _ _ => (pe_eVarR (pv 8))))) pa_nil))) pa_nil)) (pe_eC pe_int rfl)) (pe_eC pe_int rfl)) (pe_eC pe_int rfl) (pe_p2 (pu_c _) (pu_c _) (pe_sub (pe_eC pe_int rfl) (pe_eC pe_int rfl)))) (pgn 4 sc_law_trace_told.nd)))
    (pss_c (r_for (ps_fo (passes_of rfl) rfl (pi_r1 rfl E.n_range (pa_cons (pe_eC pe_int rfl) pa_nil)) (pgn 5 sc_law_trace_told.nd) (pss_c (r_asg (ps_as (pe_fCallI (ok_law_mixed E) (hr.mono (by decide)) rfl E.g__law_mixed (kp_of E.d_law_mixed) (pv 0) (pa_cons (pe_p1 (pu_r _) (pe_bt call_list_of cv_list rfl E.n_list boot_list' (pa_cons (pv 2) pa_nil))) pa_nil)) (pgn 6 sc_law_trace_told.nd)))
    (pss_c (r_asg (ps_as (pe_p1 (pu_r _) (pe_bt call_list_of cv_list rfl E.n_list boot_list' (pa_cons (pv 6) pa_nil))) (pgn 7 sc_law_trace_told.nd)))
    (pss_c (ps_iff (PW.pt (pw_oo (pt_no (pt_tru (pe_fCall (ok_law_like E 4) (hr.mono (by decide)) rfl E.g__law_like (kp_of E.d_law_like) (pa_cons (pe_fCall (ok_trace E) (hr.mono (by decide)) rfl E.g_trace (kp_of E.d_trace) (pa_cons (pe_fCallI (ok_law_shape_in E) (hr.mono (by decide)) rfl E.g__law_shape_in (kp_of E.d_law_shape_in) (pv 0) (pa_cons (pe_eVarR (pv 1)) pa_nil)) (pa_cons (pe_eVarR (pv 6)) pa_nil))) (pa_cons (pe_eVarR (pv 3)) pa_nil))))) (pw_oo (pt_no (pt_tru (pe_fCall (ok_law_like E 4) (hr.mono (by decide)) rfl E.g__law_like (kp_of E.d_law_like) (pa_cons (pe_fCall (ok_trace E) (hr.mono (by decide)) rfl E.g_trace (kp_of E.d_trace) (pa_cons (pe_fCallI (ok_law_shape_in E) (hr.mono (by decide)) rfl E.g__law_shape_in (kp_of E.d_law_shape_in) (pv 0) (pa_cons (pe_eVarR (pv 1)) pa_nil)) (pa_cons (pe_p1 (pu_r _) (pe_bt call_tuple_of cv_tuple rfl E.n_tuple boot_tuple' (pa_cons (pv 6) pa_nil))) pa_nil))) (pa_cons (pe_eVarR (pv 3)) pa_nil))))) (pw_or1 (pt_p2 (pu_r _) (pu_r _) (tc_ne (hu64 hr) (pv 6) (pv 7))))))) (pss_1 (ps_rt (pe_eC pe_bl rfl))) pss_n)
    (pss_1 (ps_iff (pt_no (pt_tru (pe_fCall (ok_law_like E 4) (hr.mono (by decide)) rfl E.g__law_like (kp_of E.d_law_like) (pa_cons (pe_fCallK0 arr_trace_kind_shape (okk_trace_kind_shape E) (hr.mono (by decide)) rfl E.g_trace (kp_of E.d_trace) (pk_cons (pe_eVarR (pv 6)) (pk_cons (pe_fCallI (ok_law_shape_in E) (hr.mono (by decide)) rfl E.g__law_shape_in (kp_of E.d_law_shape_in) (pv 0) (pa_cons (pe_fCall (ok_law_turned E) (hr.mono (by decide)) rfl E.g__law_turned (kp_of E.d_law_turned) (pa_cons (pe_eVarR (pv 1)) pa_nil)) pa_nil)) pk_nil))) (pa_cons (pe_p2 (pu_r _) (pu_r _) (pe_mul (pv 3) (pv 4))) pa_nil))))) (pss_1 (ps_rt (pe_eC pe_bl rfl))) pss_n)))))))
    (pss_1 (ps_rt (pe_eC pe_bl rfl))))))
theorem ok_law_trace_told (E : Fs P w K mg base) : FnR P w K mg base (L2N.CX P w) 7 (He.ga K "_law_trace_told") (spI K (TT K) 3 m_law_trace_told) := by
  obtain ⟨fd, F⟩ := E.d_law_trace_told
  exact fnR_of (fn_I F sc_law_trace_told rfl fun cdv A outer s H G p hp EE mk hr => bd_law_trace_told E hr) (F.bindsN fun _ _ _ _ _ _ us hl => match us, hl with | [_, _, _], _ => rfl)
theorem bd_law (E : Fs P w K mg base) {A : Around} {outer : List Env} {s : Shared} {H G : Hp} {EE : XK} {mk : MkT (TT K) G} (hr : Room 14 (A.deeper (envOfC "law" (defScope s_law) s.heap.objs.size (He.ga K "law") (.ref (codeA K (He.ga K "law")))))) :
    PSs (cxOf (L2N.CX P w) P w K mg base N_law "law" (defScope s_law) (He.ga K "law") (.ref (codeA K (He.ga K "law"))) A outer s H EE) (defBody s_law) (tS K (b0 K (TT K) G H EE mk) w_law) :=
  (pss_c (r_asg (ps_as (pe_fCall (ok_law_jar E) (hr.mono (by decide)) rfl E.g__law_jar (kp_of E.d_law_jar) (pa_cons (pe_eVarR (pv 0)) pa_nil)) (pgn 1 sc_law.nd)))
    (pss_c (r_for (ps_fo (passes_of rfl) rfl (pi_r1 rfl E.n_range (pa_cons (pe_eC pe_int rfl) pa_nil)) (pgn 2 sc_law.nd) (pss_c (r_asg (ps_as (pe_if (tc_eq (hu64 hr) (pe_fCallI (ok_law_draw E) (hr.mono (by decide)) rfl E.g__law_draw (kp_of E.d_law_draw) (pv 1) (pa_cons (pe_eC pe_int rfl) pa_nil)) (pe_eC pe_int rfl)) (pe_add (pe_eC pe_int rfl) (pe_fCallI (ok_law_draw E) (hr.mono (by decide)) rfl E.g__law_draw (kp_of E.d_law_draw) (pv 1) (pa_cons (pe_eC pe_int rfl) pa_nil))) (pe_fCallI (ok_law_draw E) (hr.mono (by decide)) rfl E.g__law_draw (kp_of E.d_law_draw) (pv 1) (pa_cons (pe_eC pe_int rfl) pa_nil))) (pgn 3 sc_law.nd)))
    (pss_c (r_aslc (ps_co (own := [("t", 11)]) rfl sc_law.nd rfl rfl rfl (pi_seq (pe_fCall (ok_law_lists E 14) (hr.mono (by decide)) rfl E.g__law_lists (kp_of E.d_law_lists) (pa_cons (pe_eVarR (pv 3)) (pa_cons (pe_eVarR (pv 3)) pa_nil)))) (blk_of (by kernel_rfl)) (inn_of rfl) (fun _ _ _ _ _ _ _ _ => (pgn 11 sc_law.nd)) (fun _ _ _ _ _ _ _ _ => (pts_1 (PW.pt (pw_oo (pt_p2 (pu_r _) (pu_c _) (tc_lt (pv 3) (pe_eC pe_int rfl))) (pw_or1 (pt_p2 (pu_p _) (pu_c _) (tc_lt (pe_p1 (pu_r _) (q_len (pe_bi cr_lenA cv_len rfl E.n_len boot_len (pa_cons (pv 11) pa_nil)))) (pe_eC pe_int rfl)))))))) (fun _ _ _ _ _ _ _ _ => (pe_eVarR (pv 11)))))
    (pss_c (r_asg (ps_as (pe_fCallI (ok_law_pick E) (hr.mono (by decide)) rfl E.g__law_pick (kp_of E.d_law_pick) (pv 1) (pa_cons (pe_fCall (ok_law_lists E 14) (hr.mono (by decide)) rfl E.g__law_lists (kp_of E.d_law_lists) (pa_cons (pe_eVarR (pv 3)) (pa_cons (pe_eVarR (pv 3)) pa_nil))) pa_nil)) (pgn 5 sc_law.nd)))
    (pss_c (r_for (ps_fo (passes_of rfl) rfl (pi_r1 rfl E.n_range (pa_cons (pe_eC pe_int rfl) pa_nil)) (pgn 6 sc_law.nd) (pss_1 (ps_iff (pt_no (pt_tru (pe_fCallI (ok_law_trace_told E) (hr.mono (by decide)) rfl E.g__law_trace_told (kp_of E.d_law_trace_told) (pv 1) (pa_cons (pe_eVarR (pv 5)) (pa_cons (pe_fCallI (ok_law_pick E) (hr.mono (by decide)) rfl E.g__law_pick (kp_of E.d_law_pick) (pv 1) (pa_cons (pe_eVarR (pv 4)) pa_nil)) pa_nil))))) (pss_1 (ps_rt (pe_eC pe_bl rfl))) pss_n))))
    (pss_c (r_asg (ps_as (pe_bt call_tuple_of cv_tuple rfl E.n_tuple boot_tuple' (pa_cons (r_lc (pe_co (own := [("i", 12)]) rfl sc_law.nd (pi_r1 rfl E.n_range (pa_cons (pv 3) pa_nil)) (blk_of (by kernel_rfl)) (inn_of rfl) (fun _ _ _ _ _ _ _ _ => (pgn 12 sc_law.nd)) (fun _ _ _ _ _ _ _ _ => pts_0) (fun _ _ _ _ _ _ _ _ => (pe_eC pe_int rfl)))) pa_nil)) (pgn 7 sc_law.nd)))
    (pss_c (ps_iff (PW.pt (pw_an (pt_p2 (pu_r _) (pu_c _) (tc_lt (pv 3) (pe_eC pe_int rfl))) (pw_and1 (PW.pt (pw_oo (pt_no (pt_tru (pe_fCallI (ok_law_trace_told E) (hr.mono (by decide)) rfl E.g__law_trace_told (kp_of E.d_law_trace_told) (pv 1) (pa_cons (pe_eVarR (pv 5)) (pa_cons (pe_eVarR (pv 7)) pa_nil))))) (pw_or1 (pt_no (pt_tru (pe_fCall (ok_law_like E 4) (hr.mono (by decide)) rfl E.g__law_like (kp_of E.d_law_like) (pa_cons (pe_fCall (ok_trace E) (hr.mono (by decide)) rfl E.g_trace (kp_of E.d_trace) (pa_cons (pe_fCallI (ok_law_shape_in E) (hr.mono (by decide)) rfl E.g__law_shape_in (kp_of E.d_law_shape_in) (pv 1) (pa_cons (pe_eVarR (pv 5)) pa_nil)) (pa_cons (pe_p1 (pu_r _) (pe_bt call_list_of cv_list rfl E.n_list boot_list' (pa_cons (pv 7) pa_nil))) pa_nil))) (pa_cons (pe_fCall (ok_law_count E) (hr.mono (by decide)) rfl E.g__law_count (kp_of E.d_law_count) (pa_cons (pe_eVarR (pv 5)) pa_nil)) pa_nil))))))))))) (pss_1 (ps_rt (pe_eC pe_bl rfl))) pss_n)
    (pss_c (r_asg (ps_as (pe_add (pe_bt call_list_of cv_list rfl E.n_list boot_list' (pa_cons (pe_fCallI (ok_law_pick E) (hr.mono (by decide)) rfl E.g__law_pick (kp_of E.d_law_pick) (pv 1) (pa_cons (pe_eVarR (pv 4)) pa_nil)) pa_nil)) (pe_eLst (pa_cons (pe_add (pe_eC pe_int rfl) (pe_fCallI (ok_law_draw E) (hr.mono (by decide)) rfl E.g__law_draw (kp_of E.d_law_draw) (pv 1) (pa_cons (pe_eC pe_int rfl) pa_nil))) pa_nil))) (pgn 8 sc_law.nd)))
    (pss_c (r_asg (ps_as (pe_fCallI (ok_law_shape_in E) (hr.mono (by decide)) rfl E.g__law_shape_in (kp_of E.d_law_shape_in) (pv 1) (pa_cons (pe_eVarR (pv 5)) pa_nil)) (pgn 9 sc_law.nd)))
    (pss_c (ps_iff (pt_no (pt_tru (pe_give (P := tabA K (He.ga K "law")) E.tb_law rfl tbm_law (LamX.lamS_by (by kernel_rfl)) rfl (fun _ _ _ _ _ => rfl) (fun _ _ _ _ _ _ _ _ _ hr => (pe_fCall (ok_trace E) (hr.mono (by decide)) rfl E.g_trace (kp_of E.d_trace) (pa_cons (pe_eVarR (pv 9)) (pa_cons (pe_eVarR (pv 8)) pa_nil)))) (ok_law_refused E) (hr.mono (by decide)) rfl E.g__law_refused (kp_of E.d_law_refused) (pa_cons (pe_eLst (pa_cons (pe_eC pe_str rfl) (pa_cons (pe_eC pe_str rfl) pa_nil))) pa_nil)))) (pss_1 (ps_rt (pe_eC pe_bl rfl))) pss_n)
    (pss_c (r_asg (ps_as (pe_sl (pv 8) (po_so (pe_eC pe_int rfl)) po_no) (pgn 10 sc_law.nd)))
    (pss_1 (ps_iff (PW.pt (pw_an (pt_p2 (pu_p _) (pu_r _) (tc_ne (hu64 hr) (pe_p1 (pu_r _) (pe_bi (cr_sumA rfl) cv_sum rfl E.n_sum boot_sum' (pa_cons (pv 10) pa_nil))) (pv 3))) (pw_and1 (pt_no (pt_tru (pe_give (P := tabA K (He.ga K "law")) E.tb_law rfl tbm_law (LamX.lamS_by (by kernel_rfl)) rfl (fun _ _ _ _ _ => rfl) (fun _ _ _ _ _ _ _ _ _ hr => (pe_fCall (ok_trace E) (hr.mono (by decide)) rfl E.g_trace (kp_of E.d_trace) (pa_cons (pe_eVarR (pv 9)) (pa_cons (pe_eVarR (pv 10)) pa_nil)))) (ok_law_refused E) (hr.mono (by decide)) rfl E.g__law_refused (kp_of E.d_law_refused) (pa_cons (pe_eLst (pa_cons (pe_eC pe_str rfl) (pa_cons (pe_eC pe_str rfl) pa_nil))) pa_nil))))))) (pss_1 (ps_rt (pe_eC pe_bl rfl))) pss_n))))))))))))))
    (pss_1 (ps_rt (pe_andV (pe_fCall (ok_law_like E 4) (hr.mono (by decide)) rfl E.g__law_like (kp_of E.d_law_like) (pa_cons (pe_fCall (ok_trace E) (hr.mono (by decide)) rfl E.g_trace (kp_of E.d_trace) (pa_cons (pe_eC pe_str rfl) (pa_cons (pe_eLst pa_nil) pa_nil))) (pa_cons (pe_eC pe_int rfl) pa_nil))) (pe_one (pe_fCall (ok_law_like E 4) (hr.mono (by decide)) rfl E.g__law_like (kp_of E.d_law_like) (pa_cons (pe_fCall (ok_trace E) (hr.mono (by decide)) rfl E.g_trace (kp_of E.d_trace) (pa_cons (pe_eC pe_str rfl) (pa_cons (pe_eLst (pa_cons (pe_eC pe_int rfl) pa_nil)) pa_nil))) (pa_cons (pe_eC pe_int rfl) pa_nil)))))))))
end
/-! the head -/
def fa : List He.Fa := [.cls "Shape", .noat "Shape" "columns", .noat "Shape" "filling_count", .noat "Shape" "numbers", .noat "Shape" "size", .glo "BadCoordinates", .glo "BadCrest", .glo "BadEquation", .glo "BadField", .glo "BadMarks", .glo "BadMix", .glo "BadNumber", .glo "BadPoly", .glo "BadSaying", .glo "BadScript", .glo "BadShape", .glo "BadShuffle", .glo "BadSpan", .glo "BadTable", .glo "Ended", .glo "EqualMarks", .glo "NoSuch", .glo "NotReal", .glo "NotTrim", .glo "Refusal", .glo "Shape", .glo "TooMany", .glo "Unlike", .glo "Unreadable", .glo "_law_classes", .glo "_law_count", .glo "_law_draw", .glo "_law_jar", .glo "_law_like", .glo "_law_lists", .glo "_law_mixed", .glo "_law_parts_of", .glo "_law_pick", .glo "_law_refused", .glo "_law_shape_in", .glo "_law_shape_text", .glo "_law_trace", .glo "_law_trace_told", .glo "_law_tried", .glo "_law_turned", .glo "boxes_of", .glo "columns_of", .glo "degrees_of", .glo "filling_count_of", .glo "integers_in", .glo "is_digits", .glo "is_integer", .glo "read_numbers", .glo "trace", .glo "trace_of", .int "SIZE" 12, .mkr "Shape", .free "LookupError", .free "RuntimeError", .free "ValueError", .free "bool", .free "dict", .free "enumerate", .free "int", .free "isinstance", .free "len", .free "list", .free "max", .free "min", .free "range", .free "sorted", .free "str", .free "sum", .free "tuple", .noat "Unlike" "what", .free "super", .exm "Unlike" "Refusal" true, .glo "law"]
def fx : List Fx := [.bui "factorial" "math.factorial", .one (.b "NoneType") (.o "Shape") false, .one (.b "NoneType") (.b "bool") false, .one (.b "NoneType") (.b "int") false, .one (.b "NoneType") (.b "list") false, .one (.b "NoneType") (.b "str") false, .one (.b "NoneType") (.b "tuple") false, .one (.b "bool") (.o "Shape") false, .one (.b "bool") (.b "bool") true, .one (.b "bool") (.b "int") true, .one (.b "bool") (.b "list") false, .one (.b "bool") (.b "str") false, .one (.b "bool") (.b "tuple") false, .one (.b "int") (.o "Shape") false, .one (.b "int") (.b "bool") false, .one (.b "int") (.b "int") true, .one (.b "int") (.b "list") false, .one (.b "int") (.b "str") false, .one (.b "int") (.b "tuple") false, .one (.b "str") (.o "Shape") false, .one (.b "str") (.b "bool") false, .one (.b "str") (.b "int") false, .one (.b "str") (.b "list") false, .one (.b "str") (.b "str") true, .one (.b "str") (.b "tuple") false, .one (.b "tuple") (.o "Shape") false, .one (.b "tuple") (.b "bool") false, .one (.b "tuple") (.b "int") false, .one (.b "tuple") (.b "list") false, .one (.b "tuple") (.b "str") false, .one (.b "tuple") (.b "tuple") true, .one (.b "list") (.o "Shape") false, .one (.b "list") (.b "bool") false, .one (.b "list") (.b "int") false, .one (.b "list") (.b "list") true, .one (.b "list") (.b "str") false, .one (.b "list") (.b "tuple") false, .one (.b "dict") (.o "Shape") false, .one (.b "dict") (.b "bool") false, .one (.b "dict") (.b "int") false, .one (.b "dict") (.b "list") false, .one (.b "dict") (.b "str") false, .one (.b "dict") (.b "tuple") false, .one (.o "Shape") (.o "Shape") true, .one (.o "Shape") (.b "bool") false, .one (.o "Shape") (.b "int") false, .one (.o "Shape") (.b "list") false, .one (.o "Shape") (.b "str") false, .one (.o "Shape") (.b "tuple") false, .isa "Shape", .one (.o "Unlike") (.o "BadCoordinates") false, .one (.o "Unlike") (.o "BadCrest") false, .one (.o "Unlike") (.o "BadEquation") false, .one (.o "Unlike") (.o "BadField") false, .one (.o "Unlike") (.o "BadMarks") false, .one (.o "Unlike") (.o "BadMix") false, .one (.o "Unlike") (.o "BadNumber") false, .one (.o "Unlike") (.o "BadPoly") false, .one (.o "Unlike") (.o "BadSaying") false, .one (.o "Unlike") (.o "BadScript") false, .one (.o "Unlike") (.o "BadShape") false, .one (.o "Unlike") (.o "BadShuffle") false, .one (.o "Unlike") (.o "BadSpan") false, .one (.o "Unlike") (.o "BadTable") false, .one (.o "Unlike") (.o "Ended") false, .one (.o "Unlike") (.o "EqualMarks") false, .one (.o "Unlike") (.b "LookupError") false, .one (.o "Unlike") (.o "NoSuch") false, .one (.o "Unlike") (.o "NotReal") false, .one (.o "Unlike") (.o "NotTrim") false, .one (.o "Unlike") (.o "Refusal") true, .one (.o "Unlike") (.b "RuntimeError") false, .one (.o "Unlike") (.o "TooMany") false, .one (.o "Unlike") (.o "Unlike") true, .one (.o "Unlike") (.o "Unreadable") false, .one (.o "Unlike") (.b "ValueError") true]
def fy : List Fy := [.oex "Unlike", .xini "Unlike" file, .xfc "Unlike", .xcc "Unlike"]
def fn : List DefA := [⟨fun K => (He.ma K (He.ga K "Shape") "__init__"), "__init__", "Shape.__init__", defArgs s_Shape_init, defBody s_Shape_init, defScope s_Shape_init, [], []⟩,
  ⟨fun K => (He.ga K "boxes_of"), "boxes_of", "boxes_of", defArgs s_boxes_of, defBody s_boxes_of, defScope s_boxes_of, [], []⟩,
  ⟨fun K => (He.ga K "columns_of"), "columns_of", "columns_of", defArgs s_columns_of, defBody s_columns_of, defScope s_columns_of, [], []⟩,
  ⟨fun K => (He.ga K "degrees_of"), "degrees_of", "degrees_of", defArgs s_degrees_of, defBody s_degrees_of, defScope s_degrees_of, [], []⟩,
  ⟨fun K => (He.ga K "filling_count_of"), "filling_count_of", "filling_count_of", defArgs s_filling_count_of, defBody s_filling_count_of, defScope s_filling_count_of, [], []⟩,
  ⟨fun K => (He.ga K "integers_in"), "integers_in", "integers_in", defArgs s_integers_in, defBody s_integers_in, defScope s_integers_in, [], []⟩,
  ⟨fun K => (He.ga K "is_digits"), "is_digits", "is_digits", defArgs s_is_digits, defBody s_is_digits, defScope s_is_digits, [], []⟩,
  ⟨fun K => (He.ga K "is_integer"), "is_integer", "is_integer", defArgs s_is_integer, defBody s_is_integer, defScope s_is_integer, [], []⟩,
  ⟨fun K => (He.ga K "law"), "law", "law", defArgs s_law, defBody s_law, defScope s_law, [], []⟩,
  ⟨fun K => (He.ga K "_law_classes"), "_law_classes", "_law_classes", defArgs s_law_classes, defBody s_law_classes, defScope s_law_classes, [], []⟩,
  ⟨fun K => (He.ga K "_law_count"), "_law_count", "_law_count", defArgs s_law_count, defBody s_law_count, defScope s_law_count, [], []⟩,
  ⟨fun K => (He.ga K "_law_draw"), "_law_draw", "_law_draw", defArgs s_law_draw, defBody s_law_draw, defScope s_law_draw, [], []⟩,
  ⟨fun K => (He.ga K "_law_jar"), "_law_jar", "_law_jar", defArgs s_law_jar, defBody s_law_jar, defScope s_law_jar, [], []⟩,
  ⟨fun K => (He.ga K "_law_like"), "_law_like", "_law_like", defArgs s_law_like, defBody s_law_like, defScope s_law_like, [], []⟩,
  ⟨fun K => (He.ga K "_law_lists"), "_law_lists", "_law_lists", defArgs s_law_lists, defBody s_law_lists, defScope s_law_lists, [], []⟩,
  ⟨fun K => (He.ga K "_law_mixed"), "_law_mixed", "_law_mixed", defArgs s_law_mixed, defBody s_law_mixed, defScope s_law_mixed, [], []⟩,
  ⟨fun K => (He.ga K "_law_parts_of"), "_law_parts_of", "_law_parts_of", defArgs s_law_parts_of, defBody s_law_parts_of, defScope s_law_parts_of, [], []⟩,
  ⟨fun K => (He.ga K "_law_pick"), "_law_pick", "_law_pick", defArgs s_law_pick, defBody s_law_pick, defScope s_law_pick, [], []⟩,
  ⟨fun K => (He.ga K "_law_refused"), "_law_refused", "_law_refused", defArgs s_law_refused, defBody s_law_refused, defScope s_law_refused, [], []⟩,
  ⟨fun K => (He.ga K "_law_shape_in"), "_law_shape_in", "_law_shape_in", defArgs s_law_shape_in, defBody s_law_shape_in, defScope s_law_shape_in, [], []⟩,
  ⟨fun K => (He.ga K "_law_shape_text"), "_law_shape_text", "_law_shape_text", defArgs s_law_shape_text, defBody s_law_shape_text, defScope s_law_shape_text, [], []⟩,
  ⟨fun K => (He.ga K "_law_trace"), "_law_trace", "_law_trace", defArgs s_law_trace, defBody s_law_trace, defScope s_law_trace, [], []⟩,
  ⟨fun K => (He.ga K "_law_trace_told"), "_law_trace_told", "_law_trace_told", defArgs s_law_trace_told, defBody s_law_trace_told, defScope s_law_trace_told, [], []⟩,
  ⟨fun K => (He.ga K "_law_tried"), "_law_tried", "_law_tried", defArgs s_law_tried, defBody s_law_tried, defScope s_law_tried, [], []⟩,
  ⟨fun K => (He.ga K "_law_turned"), "_law_turned", "_law_turned", defArgs s_law_turned, defBody s_law_turned, defScope s_law_turned, [], []⟩,
  ⟨fun K => (He.ga K "read_numbers"), "read_numbers", "read_numbers", defArgs s_read_numbers, defBody s_read_numbers, defScope s_read_numbers, [], []⟩,
  ⟨fun K => (He.ga K "trace"), "trace", "trace", defArgs s_trace, defBody s_trace, defScope s_trace, [], []⟩,
  ⟨fun K => (He.ga K "trace_of"), "trace_of", "trace_of", defArgs s_trace_of, defBody s_trace_of, defScope s_trace_of, [], []⟩]
def fi : List DefI := [⟨"Unlike", "__init__", "Unlike.__init__", defArgs s_Unlike_init, defBody s_Unlike_init, defScope s_Unlike_init⟩]
def ms : List MkA := [fun K => (He.ga K "law")]
def hargs : HArgs := ⟨fa, fx, fy, fn, fi, ms⟩
theorem fs_of {P : Program} {w : World} {K : PySem.W.Frag} {h base : Heap} {g : Addr → Option Obj} {mg : Str → Option Value} (X : K.In h) (G : h.Ns mainGlobals mg) (c : SaysT hargs g K) (pk : ProgOk P file) (TBs : ∀ p ∈ csT hargs K, LamX.TabB base mg p.1 p.2) : Fs P w K mg base where
  b_factorial := bui_ok X G (c.fact2 0 (f := .bui "factorial" "math.factorial") rfl)
  d_Shape_init := c.def_ 0 rfl
  d_boxes_of := c.def_ 1 rfl
  d_columns_of := c.def_ 2 rfl
  d_degrees_of := c.def_ 3 rfl
  d_filling_count_of := c.def_ 4 rfl
  d_integers_in := c.def_ 5 rfl
  d_is_digits := c.def_ 6 rfl
  d_is_integer := c.def_ 7 rfl
  d_law := c.def_ 8 rfl
  d_law_classes := c.def_ 9 rfl
  d_law_count := c.def_ 10 rfl
  d_law_draw := c.def_ 11 rfl
  d_law_jar := c.def_ 12 rfl
  d_law_like := c.def_ 13 rfl
  d_law_lists := c.def_ 14 rfl
  d_law_mixed := c.def_ 15 rfl
  d_law_parts_of := c.def_ 16 rfl
  d_law_pick := c.def_ 17 rfl
  d_law_refused := c.def_ 18 rfl
  d_law_shape_in := c.def_ 19 rfl
  d_law_shape_text := c.def_ 20 rfl
  d_law_trace := c.def_ 21 rfl
  d_law_trace_told := c.def_ 22 rfl
  d_law_tried := c.def_ 23 rfl
  d_law_turned := c.def_ 24 rfl
  d_read_numbers := c.def_ 25 rfl
  d_trace := c.def_ 26 rfl
  d_trace_of := c.def_ 27 rfl
  fld_columns := fld_of (by
      intro x hx
      rcases List.mem_cons.mp hx with h | hx
      · subst h; exact ⟨by kernel_rfl, He.cls_ok (c.fact 0 (f := .cls "Shape") rfl), He.noat_ok (c.fact 1 (f := .noat "Shape" "columns") rfl), Nat.le_of_ble_eq_true rfl⟩
      cases hx)
  fld_filling_count := fld_of (by
      intro x hx
      rcases List.mem_cons.mp hx with h | hx
      · subst h; exact ⟨by kernel_rfl, He.cls_ok (c.fact 0 (f := .cls "Shape") rfl), He.noat_ok (c.fact 2 (f := .noat "Shape" "filling_count") rfl), Nat.le_of_ble_eq_true rfl⟩
      cases hx)
  fld_numbers := fld_of (by
      intro x hx
      rcases List.mem_cons.mp hx with h | hx
      · subst h; exact ⟨by kernel_rfl, He.cls_ok (c.fact 0 (f := .cls "Shape") rfl), He.noat_ok (c.fact 3 (f := .noat "Shape" "numbers") rfl), Nat.le_of_ble_eq_true rfl⟩
      cases hx)
  fld_size := fld_of (by
      intro x hx
      rcases List.mem_cons.mp hx with h | hx
      · subst h; exact ⟨by kernel_rfl, He.cls_ok (c.fact 0 (f := .cls "Shape") rfl), He.noat_ok (c.fact 4 (f := .noat "Shape" "size") rfl), Nat.le_of_ble_eq_true rfl⟩
      cases hx)
  g_BadCoordinates := He.glo_ok X G (c.fact 5 (f := .glo "BadCoordinates") rfl)
  g_BadCrest := He.glo_ok X G (c.fact 6 (f := .glo "BadCrest") rfl)
  g_BadEquation := He.glo_ok X G (c.fact 7 (f := .glo "BadEquation") rfl)
  g_BadField := He.glo_ok X G (c.fact 8 (f := .glo "BadField") rfl)
  g_BadMarks := He.glo_ok X G (c.fact 9 (f := .glo "BadMarks") rfl)
  g_BadMix := He.glo_ok X G (c.fact 10 (f := .glo "BadMix") rfl)
  g_BadNumber := He.glo_ok X G (c.fact 11 (f := .glo "BadNumber") rfl)
  g_BadPoly := He.glo_ok X G (c.fact 12 (f := .glo "BadPoly") rfl)
  g_BadSaying := He.glo_ok X G (c.fact 13 (f := .glo "BadSaying") rfl)
  g_BadScript := He.glo_ok X G (c.fact 14 (f := .glo "BadScript") rfl)
  g_BadShape := He.glo_ok X G (c.fact 15 (f := .glo "BadShape") rfl)
  g_BadShuffle := He.glo_ok X G (c.fact 16 (f := .glo "BadShuffle") rfl)
  g_BadSpan := He.glo_ok X G (c.fact 17 (f := .glo "BadSpan") rfl)
  g_BadTable := He.glo_ok X G (c.fact 18 (f := .glo "BadTable") rfl)
  g_Ended := He.glo_ok X G (c.fact 19 (f := .glo "Ended") rfl)
  g_EqualMarks := He.glo_ok X G (c.fact 20 (f := .glo "EqualMarks") rfl)
  g_NoSuch := He.glo_ok X G (c.fact 21 (f := .glo "NoSuch") rfl)
  g_NotReal := He.glo_ok X G (c.fact 22 (f := .glo "NotReal") rfl)
  g_NotTrim := He.glo_ok X G (c.fact 23 (f := .glo "NotTrim") rfl)
  g_Refusal := He.glo_ok X G (c.fact 24 (f := .glo "Refusal") rfl)
  g_Shape := He.glo_ok X G (c.fact 25 (f := .glo "Shape") rfl)
  g_TooMany := He.glo_ok X G (c.fact 26 (f := .glo "TooMany") rfl)
  g_Unlike := He.glo_ok X G (c.fact 27 (f := .glo "Unlike") rfl)
  g_Unreadable := He.glo_ok X G (c.fact 28 (f := .glo "Unreadable") rfl)
  g__law_classes := He.glo_ok X G (c.fact 29 (f := .glo "_law_classes") rfl)
  g__law_count := He.glo_ok X G (c.fact 30 (f := .glo "_law_count") rfl)
  g__law_draw := He.glo_ok X G (c.fact 31 (f := .glo "_law_draw") rfl)
  g__law_jar := He.glo_ok X G (c.fact 32 (f := .glo "_law_jar") rfl)
  g__law_like := He.glo_ok X G (c.fact 33 (f := .glo "_law_like") rfl)
  g__law_lists := He.glo_ok X G (c.fact 34 (f := .glo "_law_lists") rfl)
  g__law_mixed := He.glo_ok X G (c.fact 35 (f := .glo "_law_mixed") rfl)
  g__law_parts_of := He.glo_ok X G (c.fact 36 (f := .glo "_law_parts_of") rfl)
  g__law_pick := He.glo_ok X G (c.fact 37 (f := .glo "_law_pick") rfl)
  g__law_refused := He.glo_ok X G (c.fact 38 (f := .glo "_law_refused") rfl)
  g__law_shape_in := He.glo_ok X G (c.fact 39 (f := .glo "_law_shape_in") rfl)
  g__law_shape_text := He.glo_ok X G (c.fact 40 (f := .glo "_law_shape_text") rfl)
  g__law_trace := He.glo_ok X G (c.fact 41 (f := .glo "_law_trace") rfl)
  g__law_trace_told := He.glo_ok X G (c.fact 42 (f := .glo "_law_trace_told") rfl)
  g__law_tried := He.glo_ok X G (c.fact 43 (f := .glo "_law_tried") rfl)
  g__law_turned := He.glo_ok X G (c.fact 44 (f := .glo "_law_turned") rfl)
  g_boxes_of := He.glo_ok X G (c.fact 45 (f := .glo "boxes_of") rfl)
  g_columns_of := He.glo_ok X G (c.fact 46 (f := .glo "columns_of") rfl)
  g_degrees_of := He.glo_ok X G (c.fact 47 (f := .glo "degrees_of") rfl)
  g_filling_count_of := He.glo_ok X G (c.fact 48 (f := .glo "filling_count_of") rfl)
  g_integers_in := He.glo_ok X G (c.fact 49 (f := .glo "integers_in") rfl)
  g_is_digits := He.glo_ok X G (c.fact 50 (f := .glo "is_digits") rfl)
  g_is_integer := He.glo_ok X G (c.fact 51 (f := .glo "is_integer") rfl)
  g_read_numbers := He.glo_ok X G (c.fact 52 (f := .glo "read_numbers") rfl)
  g_trace := He.glo_ok X G (c.fact 53 (f := .glo "trace") rfl)
  g_trace_of := He.glo_ok X G (c.fact 54 (f := .glo "trace_of") rfl)
  i_SIZE := He.int_ok X G (c.fact 55 (f := .int "SIZE" 12) rfl)
  isa := by
      refine isa_of (l := isaT) (fun x hx => ?_) (fun k cc b hx => ?_)
      · unfold isaT at hx
        rcases List.mem_cons.mp hx with h | hx
        · subst h; exact one_ok (c.fact2 1 (f := .one (.b "NoneType") (.o "Shape") false) rfl)
        rcases List.mem_cons.mp hx with h | hx
        · subst h; exact one_ok (c.fact2 2 (f := .one (.b "NoneType") (.b "bool") false) rfl)
        rcases List.mem_cons.mp hx with h | hx
        · subst h; exact one_ok (c.fact2 3 (f := .one (.b "NoneType") (.b "int") false) rfl)
        rcases List.mem_cons.mp hx with h | hx
        · subst h; exact one_ok (c.fact2 4 (f := .one (.b "NoneType") (.b "list") false) rfl)
        rcases List.mem_cons.mp hx with h | hx
        · subst h; exact one_ok (c.fact2 5 (f := .one (.b "NoneType") (.b "str") false) rfl)
        rcases List.mem_cons.mp hx with h | hx
        · subst h; exact one_ok (c.fact2 6 (f := .one (.b "NoneType") (.b "tuple") false) rfl)
        rcases List.mem_cons.mp hx with h | hx
        · subst h; exact one_ok (c.fact2 7 (f := .one (.b "bool") (.o "Shape") false) rfl)
        rcases List.mem_cons.mp hx with h | hx
        · subst h; exact one_ok (c.fact2 8 (f := .one (.b "bool") (.b "bool") true) rfl)
        rcases List.mem_cons.mp hx with h | hx
        · subst h; exact one_ok (c.fact2 9 (f := .one (.b "bool") (.b "int") true) rfl)
        rcases List.mem_cons.mp hx with h | hx
        · subst h; exact one_ok (c.fact2 10 (f := .one (.b "bool") (.b "list") false) rfl)
        rcases List.mem_cons.mp hx with h | hx
        · subst h; exact one_ok (c.fact2 11 (f := .one (.b "bool") (.b "str") false) rfl)
        rcases List.mem_cons.mp hx with h | hx
        · subst h; exact one_ok (c.fact2 12 (f := .one (.b "bool") (.b "tuple") false) rfl)
        rcases List.mem_cons.mp hx with h | hx
        · subst h; exact one_ok (c.fact2 13 (f := .one (.b "int") (.o "Shape") false) rfl)
        rcases List.mem_cons.mp hx with h | hx
        · subst h; exact one_ok (c.fact2 14 (f := .one (.b "int") (.b "bool") false) rfl)
        rcases List.mem_cons.mp hx with h | hx
        · subst h; exact one_ok (c.fact2 15 (f := .one (.b "int") (.b "int") true) rfl)
        rcases List.mem_cons.mp hx with h | hx
        · subst h; exact one_ok (c.fact2 16 (f := .one (.b "int") (.b "list") false) rfl)
        rcases List.mem_cons.mp hx with h | hx
        · subst h; exact one_ok (c.fact2 17 (f := .one (.b "int") (.b "str") false) rfl)
        rcases List.mem_cons.mp hx with h | hx
        · subst h; exact one_ok (c.fact2 18 (f := .one (.b "int") (.b "tuple") false) rfl)
        rcases List.mem_cons.mp hx with h | hx
        · subst h; exact one_ok (c.fact2 19 (f := .one (.b "str") (.o "Shape") false) rfl)
        rcases List.mem_cons.mp hx with h | hx
        · subst h; exact one_ok (c.fact2 20 (f := .one (.b "str") (.b "bool") false) rfl)
        rcases List.mem_cons.mp hx with h | hx
        · subst h; exact one_ok (c.fact2 21 (f := .one (.b "str") (.b "int") false) rfl)
        rcases List.mem_cons.mp hx with h | hx
        · subst h; exact one_ok (c.fact2 22 (f := .one (.b "str") (.b "list") false) rfl)
        rcases List.mem_cons.mp hx with h | hx
        · subst h; exact one_ok (c.fact2 23 (f := .one (.b "str") (.b "str") true) rfl)
        rcases List.mem_cons.mp hx with h | hx
        · subst h; exact one_ok (c.fact2 24 (f := .one (.b "str") (.b "tuple") false) rfl)
        rcases List.mem_cons.mp hx with h | hx
        · subst h; exact one_ok (c.fact2 25 (f := .one (.b "tuple") (.o "Shape") false) rfl)
        rcases List.mem_cons.mp hx with h | hx
        · subst h; exact one_ok (c.fact2 26 (f := .one (.b "tuple") (.b "bool") false) rfl)
        rcases List.mem_cons.mp hx with h | hx
        · subst h; exact one_ok (c.fact2 27 (f := .one (.b "tuple") (.b "int") false) rfl)
        rcases List.mem_cons.mp hx with h | hx
        · subst h; exact one_ok (c.fact2 28 (f := .one (.b "tuple") (.b "list") false) rfl)
        rcases List.mem_cons.mp hx with h | hx
        · subst h; exact one_ok (c.fact2 29 (f := .one (.b "tuple") (.b "str") false) rfl)
        rcases List.mem_cons.mp hx with h | hx
        · subst h; exact one_ok (c.fact2 30 (f := .one (.b "tuple") (.b "tuple") true) rfl)
        rcases List.mem_cons.mp hx with h | hx
        · subst h; exact one_ok (c.fact2 31 (f := .one (.b "list") (.o "Shape") false) rfl)
        rcases List.mem_cons.mp hx with h | hx
        · subst h; exact one_ok (c.fact2 32 (f := .one (.b "list") (.b "bool") false) rfl)
        rcases List.mem_cons.mp hx with h | hx
        · subst h; exact one_ok (c.fact2 33 (f := .one (.b "list") (.b "int") false) rfl)
        rcases List.mem_cons.mp hx with h | hx
        · subst h; exact one_ok (c.fact2 34 (f := .one (.b "list") (.b "list") true) rfl)
        rcases List.mem_cons.mp hx with h | hx
        · subst h; exact one_ok (c.fact2 35 (f := .one (.b "list") (.b "str") false) rfl)
        rcases List.mem_cons.mp hx with h | hx
        · subst h; exact one_ok (c.fact2 36 (f := .one (.b "list") (.b "tuple") false) rfl)
        rcases List.mem_cons.mp hx with h | hx
        · subst h; exact one_ok (c.fact2 37 (f := .one (.b "dict") (.o "Shape") false) rfl)
        rcases List.mem_cons.mp hx with h | hx
        · subst h; exact one_ok (c.fact2 38 (f := .one (.b "dict") (.b "bool") false) rfl)
        rcases List.mem_cons.mp hx with h | hx
        · subst h; exact one_ok (c.fact2 39 (f := .one (.b "dict") (.b "int") false) rfl)
        rcases List.mem_cons.mp hx with h | hx
        · subst h; exact one_ok (c.fact2 40 (f := .one (.b "dict") (.b "list") false) rfl)
        rcases List.mem_cons.mp hx with h | hx
        · subst h; exact one_ok (c.fact2 41 (f := .one (.b "dict") (.b "str") false) rfl)
        rcases List.mem_cons.mp hx with h | hx
        · subst h; exact one_ok (c.fact2 42 (f := .one (.b "dict") (.b "tuple") false) rfl)
        rcases List.mem_cons.mp hx with h | hx
        · subst h; exact one_ok (c.fact2 43 (f := .one (.o "Shape") (.o "Shape") true) rfl)
        rcases List.mem_cons.mp hx with h | hx
        · subst h; exact one_ok (c.fact2 44 (f := .one (.o "Shape") (.b "bool") false) rfl)
        rcases List.mem_cons.mp hx with h | hx
        · subst h; exact one_ok (c.fact2 45 (f := .one (.o "Shape") (.b "int") false) rfl)
        rcases List.mem_cons.mp hx with h | hx
        · subst h; exact one_ok (c.fact2 46 (f := .one (.o "Shape") (.b "list") false) rfl)
        rcases List.mem_cons.mp hx with h | hx
        · subst h; exact one_ok (c.fact2 47 (f := .one (.o "Shape") (.b "str") false) rfl)
        rcases List.mem_cons.mp hx with h | hx
        · subst h; exact one_ok (c.fact2 48 (f := .one (.o "Shape") (.b "tuple") false) rfl)
        cases hx
      · unfold isaT at hx
        rcases List.mem_cons.mp hx with h | hx
        · cases h
        rcases List.mem_cons.mp hx with h | hx
        · cases h
        rcases List.mem_cons.mp hx with h | hx
        · cases h
        rcases List.mem_cons.mp hx with h | hx
        · cases h
        rcases List.mem_cons.mp hx with h | hx
        · cases h
        rcases List.mem_cons.mp hx with h | hx
        · cases h
        rcases List.mem_cons.mp hx with h | hx
        · cases h
        rcases List.mem_cons.mp hx with h | hx
        · cases h
        rcases List.mem_cons.mp hx with h | hx
        · cases h
        rcases List.mem_cons.mp hx with h | hx
        · cases h
        rcases List.mem_cons.mp hx with h | hx
        · cases h
        rcases List.mem_cons.mp hx with h | hx
        · cases h
        rcases List.mem_cons.mp hx with h | hx
        · cases h
        rcases List.mem_cons.mp hx with h | hx
        · cases h
        rcases List.mem_cons.mp hx with h | hx
        · cases h
        rcases List.mem_cons.mp hx with h | hx
        · cases h
        rcases List.mem_cons.mp hx with h | hx
        · cases h
        rcases List.mem_cons.mp hx with h | hx
        · cases h
        rcases List.mem_cons.mp hx with h | hx
        · cases h
        rcases List.mem_cons.mp hx with h | hx
        · cases h
        rcases List.mem_cons.mp hx with h | hx
        · cases h
        rcases List.mem_cons.mp hx with h | hx
        · cases h
        rcases List.mem_cons.mp hx with h | hx
        · cases h
        rcases List.mem_cons.mp hx with h | hx
        · cases h
        rcases List.mem_cons.mp hx with h | hx
        · cases h
        rcases List.mem_cons.mp hx with h | hx
        · cases h
        rcases List.mem_cons.mp hx with h | hx
        · cases h
        rcases List.mem_cons.mp hx with h | hx
        · cases h
        rcases List.mem_cons.mp hx with h | hx
        · cases h
        rcases List.mem_cons.mp hx with h | hx
        · cases h
        rcases List.mem_cons.mp hx with h | hx
        · cases h
        rcases List.mem_cons.mp hx with h | hx
        · cases h
        rcases List.mem_cons.mp hx with h | hx
        · cases h
        rcases List.mem_cons.mp hx with h | hx
        · cases h
        rcases List.mem_cons.mp hx with h | hx
        · cases h
        rcases List.mem_cons.mp hx with h | hx
        · cases h
        rcases List.mem_cons.mp hx with h | hx
        · cases h
        rcases List.mem_cons.mp hx with h | hx
        · cases h
        rcases List.mem_cons.mp hx with h | hx
        · cases h
        rcases List.mem_cons.mp hx with h | hx
        · cases h
        rcases List.mem_cons.mp hx with h | hx
        · cases h
        rcases List.mem_cons.mp hx with h | hx
        · cases h
        rcases List.mem_cons.mp hx with h | hx
        · cases h; exact isa_ok (He.cls_ok (c.fact 0 (f := .cls "Shape") rfl)) (c.fact2 49 (f := .isa "Shape") rfl)
        rcases List.mem_cons.mp hx with h | hx
        · cases h; exact isa_ok (He.cls_ok (c.fact 0 (f := .cls "Shape") rfl)) (c.fact2 49 (f := .isa "Shape") rfl)
        rcases List.mem_cons.mp hx with h | hx
        · cases h; exact isa_ok (He.cls_ok (c.fact 0 (f := .cls "Shape") rfl)) (c.fact2 49 (f := .isa "Shape") rfl)
        rcases List.mem_cons.mp hx with h | hx
        · cases h; exact isa_ok (He.cls_ok (c.fact 0 (f := .cls "Shape") rfl)) (c.fact2 49 (f := .isa "Shape") rfl)
        rcases List.mem_cons.mp hx with h | hx
        · cases h; exact isa_ok (He.cls_ok (c.fact 0 (f := .cls "Shape") rfl)) (c.fact2 49 (f := .isa "Shape") rfl)
        rcases List.mem_cons.mp hx with h | hx
        · cases h; exact isa_ok (He.cls_ok (c.fact 0 (f := .cls "Shape") rfl)) (c.fact2 49 (f := .isa "Shape") rfl)
        cases hx
  mk_Shape := He.mkr_ok (c.fact 56 (f := .mkr "Shape") rfl)
  n_LookupError := He.free_ok X G (c.fact 57 (f := .free "LookupError") rfl)
  n_RuntimeError := He.free_ok X G (c.fact 58 (f := .free "RuntimeError") rfl)
  n_ValueError := He.free_ok X G (c.fact 59 (f := .free "ValueError") rfl)
  n_bool := He.free_ok X G (c.fact 60 (f := .free "bool") rfl)
  n_dict := He.free_ok X G (c.fact 61 (f := .free "dict") rfl)
  n_enumerate := He.free_ok X G (c.fact 62 (f := .free "enumerate") rfl)
  n_int := He.free_ok X G (c.fact 63 (f := .free "int") rfl)
  n_isinstance := He.free_ok X G (c.fact 64 (f := .free "isinstance") rfl)
  n_len := He.free_ok X G (c.fact 65 (f := .free "len") rfl)
  n_list := He.free_ok X G (c.fact 66 (f := .free "list") rfl)
  n_max := He.free_ok X G (c.fact 67 (f := .free "max") rfl)
  n_min := He.free_ok X G (c.fact 68 (f := .free "min") rfl)
  n_range := He.free_ok X G (c.fact 69 (f := .free "range") rfl)
  n_sorted := He.free_ok X G (c.fact 70 (f := .free "sorted") rfl)
  n_str := He.free_ok X G (c.fact 71 (f := .free "str") rfl)
  n_sum := He.free_ok X G (c.fact 72 (f := .free "sum") rfl)
  n_tuple := He.free_ok X G (c.fact 73 (f := .free "tuple") rfl)
  ra_Unlike := rais_one (x := "Unlike") (f := "what") (a := "what") (N := ["self", "what", "__class__"]) pk rfl rfl (oex_ok (c.fact3 0 (f := .oex "Unlike") rfl)) (noat_ok' (c.fact 74 (f := .noat "Unlike" "what") rfl)) (c.fact3 1 (f := .xini "Unlike" file) rfl) (nos_ok (c.fact 75 (f := .free "super") rfl)) rfl (c.ini 0 rfl) rfl rfl rfl (NdefX.nscope_by (by kernel_rfl)) rfl (fun _ _ _ _ _ _ _ us hl => match us, hl with | [_, _], _ => rfl) _ (fun _ => rfl)
  tb_law := TBs (codeA K (He.ga K "law"), tabA K (He.ga K "law")) (List.mem_map.mpr ⟨fun K => (He.ga K "law"), by simp [hargs, ms], rfl⟩)
  xf_at := xfld_of (by
      intro x hx
      cases hx)
  xf_count := xfld_of (by
      intro x hx
      cases hx)
  xf_first := xfld_of (by
      intro x hx
      cases hx)
  xf_found := xfld_of (by
      intro x hx
      cases hx)
  xf_line := xfld_of (by
      intro x hx
      cases hx)
  xf_name := xfld_of (by
      intro x hx
      cases hx)
  xf_rows := xfld_of (by
      intro x hx
      cases hx)
  xf_second := xfld_of (by
      intro x hx
      cases hx)
  xf_what := xfld_of (by
      intro x hx
      rcases List.mem_cons.mp hx with h | hx
      · subst h; exact ⟨xfc_ok (c.fact3 2 (f := .xfc "Unlike") rfl), noat_ok' (c.fact 74 (f := .noat "Unlike" "what") rfl), rfl⟩
      cases hx)
  xf_why := xfld_of (by
      intro x hx
      cases hx)
  xi_BadCoordinates := xis_of (by
      intro x hx
      rcases List.mem_cons.mp hx with h | hx
      · subst h; exact ⟨xcc_ok (c.fact3 3 (f := .xcc "Unlike") rfl), one_ok (c.fact2 50 (f := .one (.o "Unlike") (.o "BadCoordinates") false) rfl)⟩
      cases hx)
  xi_BadCrest := xis_of (by
      intro x hx
      rcases List.mem_cons.mp hx with h | hx
      · subst h; exact ⟨xcc_ok (c.fact3 3 (f := .xcc "Unlike") rfl), one_ok (c.fact2 51 (f := .one (.o "Unlike") (.o "BadCrest") false) rfl)⟩
      cases hx)
  xi_BadEquation := xis_of (by
      intro x hx
      rcases List.mem_cons.mp hx with h | hx
      · subst h; exact ⟨xcc_ok (c.fact3 3 (f := .xcc "Unlike") rfl), one_ok (c.fact2 52 (f := .one (.o "Unlike") (.o "BadEquation") false) rfl)⟩
      cases hx)
  xi_BadField := xis_of (by
      intro x hx
      rcases List.mem_cons.mp hx with h | hx
      · subst h; exact ⟨xcc_ok (c.fact3 3 (f := .xcc "Unlike") rfl), one_ok (c.fact2 53 (f := .one (.o "Unlike") (.o "BadField") false) rfl)⟩
      cases hx)
  xi_BadMarks := xis_of (by
      intro x hx
      rcases List.mem_cons.mp hx with h | hx
      · subst h; exact ⟨xcc_ok (c.fact3 3 (f := .xcc "Unlike") rfl), one_ok (c.fact2 54 (f := .one (.o "Unlike") (.o "BadMarks") false) rfl)⟩
      cases hx)
  xi_BadMix := xis_of (by
      intro x hx
      rcases List.mem_cons.mp hx with h | hx
      · subst h; exact ⟨xcc_ok (c.fact3 3 (f := .xcc "Unlike") rfl), one_ok (c.fact2 55 (f := .one (.o "Unlike") (.o "BadMix") false) rfl)⟩
      cases hx)
  xi_BadNumber := xis_of (by
      intro x hx
      rcases List.mem_cons.mp hx with h | hx
      · subst h; exact ⟨xcc_ok (c.fact3 3 (f := .xcc "Unlike") rfl), one_ok (c.fact2 56 (f := .one (.o "Unlike") (.o "BadNumber") false) rfl)⟩
      cases hx)
  xi_BadPoly := xis_of (by
      intro x hx
      rcases List.mem_cons.mp hx with h | hx
      · subst h; exact ⟨xcc_ok (c.fact3 3 (f := .xcc "Unlike") rfl), one_ok (c.fact2 57 (f := .one (.o "Unlike") (.o "BadPoly") false) rfl)⟩
      cases hx)
  xi_BadSaying := xis_of (by
      intro x hx
      rcases List.mem_cons.mp hx with h | hx
      · subst h; exact ⟨xcc_ok (c.fact3 3 (f := .xcc "Unlike") rfl), one_ok (c.fact2 58 (f := .one (.o "Unlike") (.o "BadSaying") false) rfl)⟩
      cases hx)
  xi_BadScript := xis_of (by
      intro x hx
      rcases List.mem_cons.mp hx with h | hx
      · subst h; exact ⟨xcc_ok (c.fact3 3 (f := .xcc "Unlike") rfl), one_ok (c.fact2 59 (f := .one (.o "Unlike") (.o "BadScript") false) rfl)⟩
      cases hx)
  xi_BadShape := xis_of (by
      intro x hx
      rcases List.mem_cons.mp hx with h | hx
      · subst h; exact ⟨xcc_ok (c.fact3 3 (f := .xcc "Unlike") rfl), one_ok (c.fact2 60 (f := .one (.o "Unlike") (.o "BadShape") false) rfl)⟩
      cases hx)
  xi_BadShuffle := xis_of (by
      intro x hx
      rcases List.mem_cons.mp hx with h | hx
      · subst h; exact ⟨xcc_ok (c.fact3 3 (f := .xcc "Unlike") rfl), one_ok (c.fact2 61 (f := .one (.o "Unlike") (.o "BadShuffle") false) rfl)⟩
      cases hx)
  xi_BadSpan := xis_of (by
      intro x hx
      rcases List.mem_cons.mp hx with h | hx
      · subst h; exact ⟨xcc_ok (c.fact3 3 (f := .xcc "Unlike") rfl), one_ok (c.fact2 62 (f := .one (.o "Unlike") (.o "BadSpan") false) rfl)⟩
      cases hx)
  xi_BadTable := xis_of (by
      intro x hx
      rcases List.mem_cons.mp hx with h | hx
      · subst h; exact ⟨xcc_ok (c.fact3 3 (f := .xcc "Unlike") rfl), one_ok (c.fact2 63 (f := .one (.o "Unlike") (.o "BadTable") false) rfl)⟩
      cases hx)
  xi_Ended := xis_of (by
      intro x hx
      rcases List.mem_cons.mp hx with h | hx
      · subst h; exact ⟨xcc_ok (c.fact3 3 (f := .xcc "Unlike") rfl), one_ok (c.fact2 64 (f := .one (.o "Unlike") (.o "Ended") false) rfl)⟩
      cases hx)
  xi_EqualMarks := xis_of (by
      intro x hx
      rcases List.mem_cons.mp hx with h | hx
      · subst h; exact ⟨xcc_ok (c.fact3 3 (f := .xcc "Unlike") rfl), one_ok (c.fact2 65 (f := .one (.o "Unlike") (.o "EqualMarks") false) rfl)⟩
      cases hx)
  xi_LookupError := xis_of (by
      intro x hx
      rcases List.mem_cons.mp hx with h | hx
      · subst h; exact ⟨xcc_ok (c.fact3 3 (f := .xcc "Unlike") rfl), one_ok (c.fact2 66 (f := .one (.o "Unlike") (.b "LookupError") false) rfl)⟩
      cases hx)
  xi_NoSuch := xis_of (by
      intro x hx
      rcases List.mem_cons.mp hx with h | hx
      · subst h; exact ⟨xcc_ok (c.fact3 3 (f := .xcc "Unlike") rfl), one_ok (c.fact2 67 (f := .one (.o "Unlike") (.o "NoSuch") false) rfl)⟩
      cases hx)
  xi_NotReal := xis_of (by
      intro x hx
      rcases List.mem_cons.mp hx with h | hx
      · subst h; exact ⟨xcc_ok (c.fact3 3 (f := .xcc "Unlike") rfl), one_ok (c.fact2 68 (f := .one (.o "Unlike") (.o "NotReal") false) rfl)⟩
      cases hx)
  xi_NotTrim := xis_of (by
      intro x hx
      rcases List.mem_cons.mp hx with h | hx
      · subst h; exact ⟨xcc_ok (c.fact3 3 (f := .xcc "Unlike") rfl), one_ok (c.fact2 69 (f := .one (.o "Unlike") (.o "NotTrim") false) rfl)⟩
      cases hx)
  xi_Refusal := xis_of (by
      intro x hx
      rcases List.mem_cons.mp hx with h | hx
      · subst h; exact ⟨xcc_ok (c.fact3 3 (f := .xcc "Unlike") rfl), one_ok (c.fact2 70 (f := .one (.o "Unlike") (.o "Refusal") true) rfl)⟩
      cases hx)
  xi_RuntimeError := xis_of (by
      intro x hx
      rcases List.mem_cons.mp hx with h | hx
      · subst h; exact ⟨xcc_ok (c.fact3 3 (f := .xcc "Unlike") rfl), one_ok (c.fact2 71 (f := .one (.o "Unlike") (.b "RuntimeError") false) rfl)⟩
      cases hx)
  xi_TooMany := xis_of (by
      intro x hx
      rcases List.mem_cons.mp hx with h | hx
      · subst h; exact ⟨xcc_ok (c.fact3 3 (f := .xcc "Unlike") rfl), one_ok (c.fact2 72 (f := .one (.o "Unlike") (.o "TooMany") false) rfl)⟩
      cases hx)
  xi_Unlike := xis_of (by
      intro x hx
      rcases List.mem_cons.mp hx with h | hx
      · subst h; exact ⟨xcc_ok (c.fact3 3 (f := .xcc "Unlike") rfl), one_ok (c.fact2 73 (f := .one (.o "Unlike") (.o "Unlike") true) rfl)⟩
      cases hx)
  xi_Unreadable := xis_of (by
      intro x hx
      rcases List.mem_cons.mp hx with h | hx
      · subst h; exact ⟨xcc_ok (c.fact3 3 (f := .xcc "Unlike") rfl), one_ok (c.fact2 74 (f := .one (.o "Unlike") (.o "Unreadable") false) rfl)⟩
      cases hx)
  xi_ValueError := xis_of (by
      intro x hx
      rcases List.mem_cons.mp hx with h | hx
      · subst h; exact ⟨xcc_ok (c.fact3 3 (f := .xcc "Unlike") rfl), one_ok (c.fact2 75 (f := .one (.o "Unlike") (.b "ValueError") true) rfl)⟩
      cases hx)
  xm_Refusal := by
      intro x hx
      rcases List.mem_cons.mp hx with h | hx
      · subst h; exact exm_ok (c.fact 76 (f := .exm "Unlike" "Refusal" true) rfl)
      cases hx
end
end Law_k14
/-! part Hd14s -/
set_option Elab.async false
set_option linter.all false
set_option maxRecDepth 100000
set_option maxHeartbeats 0
namespace Law_k14
open PySem PySem.Spec PyProof.Rows L2 Pf
abbrev lo0 : List Str := ["_wall", "Refusal", "Unreadable", "BadNumber", "BadPoly", "BadTable", "BadSaying", "BadShape", "BadShuffle", "BadMix", "BadMarks", "BadCrest", "BadField", "BadSpan", "BadCoordinates", "BadEquation", "BadScript", "EqualMarks", "NotTrim", "NotReal", "Unlike", "TooMany", "NoSuch", "Ended", "LETTERS", "SIZE", "is_integer", "is_digits", "integers_in", "read_numbers"]
abbrev lo1 : List Str := ["columns_of", "boxes_of", "is_box", "filling_count_of", "degrees_of", "words_of_fillings", "Shape", "trace_of", "trace", "_law_jar", "_law_draw", "_law_pick", "_law_mixed", "_law_like", "_law_classes", "_law_parts_of", "_law_tried", "_law_refused", "_law_lists", "_law_turned", "_law_count", "_law_shape_text", "_law_shape_in", "_law_trace", "_law_trace_told"]
abbrev lo : List Str := lo0 ++ lo1
abbrev R : PySem.W.OpenRow := PySem.W.OpenLaw.row PySem.Challenge.rw_spinspans_k14_traces_beside_power_sums
abbrev hk : PySem.W.Hook := hookT 5 hargs
def ob (s : PySem.W.SharedT) : He.AlD := obsTG 5 hargs (HandSHeadRun.getT s)
theorem ob_eq (s : PySem.W.SharedT) : ob s = hk.obs s.abs := obsTG_eq (HandSHeadRun.getT_eq s)
theorem run (w : World) : HandSHeadRun.RunEqI R (PySem.W.view R.prog [0, 62]) hk ob 20000 lo w := by
  unfold HandSHeadRun.RunEqI
  kernel_rfl
theorem facts {P : Program} {w : World} {K : PySem.W.Frag} {h : Heap} {g : Addr → Option Obj} {mg : Str → Option Value} {f : Addr} (X : K.In h) (Gn : h.Ns mainGlobals mg) (hfa : mg ("law" : Str) = some (.ref f)) (c : SaysT hargs g K) (pk : ProgOk P file) :
    ∃ fd : FuncData, (∀ (s : Shared) (v : Value), BindsTo s fd ⟨[v], []⟩ [("script", v)]) ∧ ∀ base : Heap, K.In base → base.Ns mainGlobals mg → (∀ p ∈ csT hargs K, LamX.TabB base mg p.1 p.2) → FnOk P w K mg base (L2N.CX P w) 15 f fd ["script"] (spF K (TT K) 1 m_law) := by
  obtain ⟨fd, F⟩ := c.def_ 8 rfl
  have e := hfa.symm.trans (He.glo_ok X Gn (c.fact 77 (f := .glo "law") rfl))
  cases e
  have b := FunD.bindsA (ps := ["script"]) F fun _ _ _ _ _ _ us hl => match us, hl with | [_], _ => rfl
  exact ⟨fd, fun s v => b s [v] rfl, fun base _ _ TBs => fn_Fc F sc_law rfl fun A outer s H G EE mk hr => bd_law (fs_of X Gn c pk TBs) hr⟩
theorem tb_cs {K : PySem.W.Frag} : (TT K).tb.map (·.1) = (csT hargs K).map (·.2) := rfl
end Law_k14
section
open PySem PySem.W PySem.Calls PyProof.Rows
theorem k14_holds (plain : ∀ ns : List Int, ns.length ≤ 63 → ∃ fl out, Law_k14.m_law [.rol (ns.map Pf.D.int)] = .ok fl (.bl true) out) : PySem.Challenge.rw_spinspans_k14_traces_beside_power_sums.Holds := by
  w_on; o_law
  refine HandSHeadRun.head_imp (r := OpenLaw.row PySem.Challenge.rw_spinspans_k14_traces_beside_power_sums) (q := view (OpenLaw.row PySem.Challenge.rw_spinspans_k14_traces_beside_power_sums).prog [0, 62]) (H := Law_k14.hk) (ob := Law_k14.ob) (M := 20000) (loose := Law_k14.lo) (d := (HandSHeadRun.topDef (OpenLaw.row PySem.Challenge.rw_spinspans_k14_traces_beside_power_sums).prog 62)) (kwd := []) Law_k14.ob_eq
    Law_k14.run (by kernel_rfl) (by kernel_rfl) (by kernel_rfl) (by rfl) (by first | assumption | decide +kernel) (by decide +kernel) ⟨rfl, rfl, rfl, rfl, rfl, by decide +kernel⟩ ?hw ?hc
  case hw => w_witness2
  case hc =>
    refine Pf.walkT (l := PySem.Challenge.rw_spinspans_k14_traces_beside_power_sums) (n := 63) (k := 15) (x := "script") (a := Law_k14.hargs) (nn := 5) rfl (by decide) (by kernel_rfl) ⟨rfl, by decide, by decide⟩ ?F
    intro w mg fa h K g KX c G hmg0
    have hmg : mg ("law" : PySem.Str) = some (.ref fa) := by
      have e : (HandSHeadRun.topDef (OpenLaw.row PySem.Challenge.rw_spinspans_k14_traces_beside_power_sums).prog 62).name = ("law" : PySem.Str) := by kernel_rfl
      rw [← e]
      exact hmg0
    obtain ⟨fd, hb, hF⟩ := Law_k14.facts (P := (PySem.Challenge.rw_spinspans_k14_traces_beside_power_sums).prog) (w := w) KX G hmg c ⟨by kernel_rfl, by kernel_rfl⟩
    refine ⟨fd, _, hb, fun H a ns hl hT hS => Pf.law_spT (fun p hp => ?_) ?_ hS (plain ns hl), hF⟩
    · have hq : p.1 ∈ (Pf.csT Law_k14.hargs K).map (·.2) := by rw [← Law_k14.tb_cs]; exact List.mem_map.mpr ⟨p, hp, rfl⟩
      obtain ⟨q, hq, eq⟩ := List.mem_map.mp hq
      rw [← eq]; exact hT q hq
    · rw [Law_k14.tb_cs]; have hn := c.b.2.2.2.2.2.2; unfold Pf.csT; rw [List.map_map]; exact hn
end
/-! part Rl -/
set_option Elab.async false
set_option linter.all false
set_option maxRecDepth 100000
set_option maxHeartbeats 4000000
/-! Rl: loops by an invariant; dicts of tuples of naturals; no law in sight. -/
namespace Pf
open PySem L2
noncomputable section
theorem loopR_cons {t : Tg} {body : SF} {ρ : Ve} {d : D} {ds : List D} : loopR t body (d :: ds) ρ = (match asgR t false d ρ with
    | none => .no
    | some ρ1 => match body ρ1 with
      | .nx ρ2 => loopR t body ds ρ2
      | .ct ρ2 => loopR t body ds ρ2
      | .br ρ2 => .nx ρ2
      | .rt fl d ρ2 => .rt fl d ρ2
      | .ex x ρ2 => .ex x ρ2
      | .no => .no) := rfl
theorem loopR_at {α β : Type} {t : Tg} {body : SF} (enc : β → D) (step : α → β → α) (P : Nat → α → Ve → Prop) : ∀ (xs : List β) (k : Nat),
    (∀ i x, xs[i]? = some x → ∀ a ρ, P (k + i) a ρ → ∃ ρ1 ρ2, asgR t false (enc x) ρ = some ρ1 ∧ (body ρ1 = .nx ρ2 ∨ body ρ1 = .ct ρ2) ∧ P (k + i + 1) (step a x) ρ2) →
    ∀ a ρ, P k a ρ → ∃ ρ', loopR t body (xs.map enc) ρ = .nx ρ' ∧ P (k + xs.length) (xs.foldl step a) ρ'
  | [], k, _, a, ρ, p => ⟨ρ, rfl, p⟩
  | x :: xs, k, h, a, ρ, p => by
    obtain ⟨ρ1, ρ2, e1, e2, p2⟩ := h 0 x rfl a ρ p
    obtain ⟨ρ', e, q⟩ := loopR_at enc step P xs (k + 1) (fun i y hy a ρ hp => by
      have e : k + 1 + i = k + (i + 1) := by omega
      rw [e] at hp ⊢
      exact h (i + 1) y (by rw [List.getElem?_cons_succ]; exact hy) a ρ hp) (step a x) ρ2 p2
    refine ⟨ρ', ?_, ?_⟩
    · rw [List.map_cons, loopR_cons, e1]
      rcases e2 with e2 | e2 <;> simp only [e2, e]
    · have e : k + (x :: xs).length = k + 1 + xs.length := by rw [List.length_cons]; omega
      rw [e, List.foldl_cons]; exact q
theorem loopR_inv {α β : Type} {t : Tg} {body : SF} (enc : β → D) (step : α → β → α) (P : Nat → α → Ve → Prop) (xs : List β)
    (h : ∀ i x, xs[i]? = some x → ∀ a ρ, P i a ρ → ∃ ρ1 ρ2, asgR t false (enc x) ρ = some ρ1 ∧ (body ρ1 = .nx ρ2 ∨ body ρ1 = .ct ρ2) ∧ P (i + 1) (step a x) ρ2)
    (a : α) (ρ : Ve) (p : P 0 a ρ) : ∃ ρ', loopR t body (xs.map enc) ρ = .nx ρ' ∧ P xs.length (xs.foldl step a) ρ' := by
  have := loopR_at (t := t) (body := body) enc step P xs 0 (fun i x hx a ρ hp => by rw [Nat.zero_add] at hp ⊢; exact h i x hx a ρ hp) a ρ p
  rw [Nat.zero_add] at this; exact this
theorem loopCR_cons {vs : List Nat} {t : Tg} {c : TFn} {el : EF} {ρ : Ve} {d : D} {ds : List D} : loopCR vs t c el (d :: ds) ρ = (match asgR t false d ρ with
    | none => .no
    | some ρ1 => match c ρ1 with
      | .ok true ρ2 => match el ρ2 with
        | .ok _ y ρ3 => (loopCR vs t c el ds (wipeR ρ3 vs)).con y
        | .ex x ρ3 => .ex x ρ3
        | .no => .no
      | .ok false ρ2 => loopCR vs t c el ds (wipeR ρ2 vs)
      | .ex x ρ2 => .ex x ρ2
      | .no => .no) := rfl
/-- a comprehension of one clause -/
theorem loopCR_inv {β : Type} {vs : List Nat} {t : Tg} {c : TFn} {el : EF} (enc : β → D) (p : β → Bool) (g : β → D) (P : Ve → Prop) : ∀ (xs : List β),
    (∀ x ∈ xs, ∀ ρ, P ρ → ∃ ρ1 ρ2, asgR t false (enc x) ρ = some ρ1 ∧ c ρ1 = .ok (p x) ρ2 ∧ (p x = true → ∃ fl ρ3, el ρ2 = .ok fl (g x) ρ3 ∧ P (wipeR ρ3 vs)) ∧ (p x = false → P (wipeR ρ2 vs))) →
    ∀ ρ, P ρ → ∃ ρ', loopCR vs t c el (xs.map enc) ρ = .ok ((xs.filter p).map g) ρ' ∧ P ρ'
  | [], _, ρ, q => ⟨ρ, rfl, q⟩
  | x :: xs, h, ρ, q => by
    obtain ⟨ρ1, ρ2, e1, e2, e3, e4⟩ := h x (List.mem_cons_self ..) ρ q
    have ih := loopCR_inv (vs := vs) (t := t) (c := c) (el := el) enc p g P xs (fun y hy => h y (List.mem_cons_of_mem _ hy))
    cases hp : p x with
    | true =>
      obtain ⟨fl, ρ3, e5, q3⟩ := e3 hp
      obtain ⟨ρ', e, q'⟩ := ih _ q3
      refine ⟨ρ', ?_, q'⟩
      rw [List.map_cons, loopCR_cons, e1]
      simp only [e2, hp, e5, e, CR.con, List.filter_cons, if_true, List.map_cons]
    | false =>
      obtain ⟨ρ', e, q'⟩ := ih _ (e4 hp)
      refine ⟨ρ', ?_, q'⟩
      rw [List.map_cons, loopCR_cons, e1]
      simp [e2, hp, e, List.filter_cons]
/-- a comprehension of one clause whose parts change nothing but its own names -/
theorem fLcR_same {β : Type} {vs : List Nat} {F : ITf} {t : Tg} {c : TFn} {el : EF} (enc : β → D) (p : β → Bool) (g : β → D) {xs : List β} {ρ ρ1 ρ0 : Ve} (hF : F ρ = .ok (xs.map enc) ρ1) (ho : okOwn ρ1 vs = true) (hl : xs.length ≤ 100000) (hw : wipeR ρ1 vs = ρ0) (hr : restR ρ1 ρ0 vs = ρ1)
    (h : ∀ x ∈ xs, ∃ ρa, asgR t false (enc x) ρ0 = some ρa ∧ c ρa = .ok (p x) ρa ∧ (p x = true → ∃ fl, el ρa = .ok fl (g x) ρa) ∧ wipeR ρa vs = ρ0) : fLcR vs F t c el ρ = .ok true (.lst ((xs.filter p).map g)) ρ1 := by
  obtain ⟨ρ', h1, h2⟩ := loopCR_inv (vs := vs) (t := t) (c := c) (el := el) enc p g (fun r => r = ρ0) xs (fun x hx r hr => by
    subst hr
    obtain ⟨ρa, a1, a2, a3, a4⟩ := h x hx
    exact ⟨ρa, ρa, a1, a2, fun hp => by obtain ⟨fl, e⟩ := a3 hp; exact ⟨fl, ρa, e, a4⟩, fun _ => a4⟩) ρ0 rfl
  subst h2
  unfold fLcR
  rw [hF]
  dsimp only
  rw [if_pos ⟨ho, by rw [List.length_map]; exact hl⟩, hw, h1]
  dsimp only
  rw [hr]
/-! naturals in data -/
def nD (n : Nat) : D := .int (n : Nat)
def kI (n : Nat) : Key := .inl (n : Nat)
theorem ksOf_nat : ∀ g : List Nat, ksOf (g.map nD) = some (g.map kI)
  | [] => rfl
  | a :: g => by rw [List.map_cons]; unfold ksOf; rw [ksOf_nat g]; rfl
theorem keyD_nat (g : List Nat) : (g.map kI).map keyD = g.map nD := by rw [List.map_map]; rfl
theorem kI_inj {a b : Nat} (h : kI a = kI b) : a = b := by unfold kI at h; injection h with h; omega
theorem kIs_inj : ∀ {g h : List Nat}, g.map kI = h.map kI → g = h
  | [], [], _ => rfl
  | [], _ :: _, e => by simp at e
  | _ :: _, [], e => by simp at e
  | a :: g, b :: h, e => by
    rw [List.map_cons, List.map_cons] at e
    injection e with e1 e2
    rw [kI_inj e1, kIs_inj e2]
/-- dicts from lists of naturals to integers -/
abbrev DcN := List (List Nat × Int)
def dcK (d : DcN) : List (List Key × D) := d.map fun kv => (kv.1.map kI, D.int kv.2)
def dcD (d : DcN) : D := .dT (dcK d)
def lookN (k : List Nat) (d : DcN) : Int := match d.find? fun kv => decide (kv.1 = k) with
  | some kv => kv.2
  | none => 0
def addN (k : List Nat) (v : Int) : DcN → DcN
  | [] => [(k, 0 + v)]
  | kv :: l => if kv.1 = k then (kv.1, kv.2 + v) :: l else kv :: addN k v l
theorem valD_nat (k : List Nat) : ∀ d : DcN, (valD (dcK d) (k.map kI)).getD (.int 0) = .int (lookN k d)
  | [] => rfl
  | kv :: d => by
    have ih := valD_nat k d
    unfold valD lookN dcK at *
    rw [List.map_cons, List.find?_cons, List.find?_cons]
    by_cases h : kv.1 = k
    · have h' : (kv.1.map kI) = k.map kI := by rw [h]
      simp [h]
    · have h' : ¬ (kv.1.map kI) = k.map kI := fun e => h (kIs_inj e)
      simp only [h, h', decide_false]
      exact ih
theorem valD_some (k : List Nat) : ∀ d : DcN, (∃ v, (k, v) ∈ d) → valD (dcK d) (k.map kI) = some (.int (lookN k d))
  | [], ⟨v, h⟩ => by cases h
  | kv :: d, ⟨v, h⟩ => by
    have ih := valD_some k d
    unfold valD lookN dcK at *
    rw [List.map_cons, List.find?_cons, List.find?_cons]
    by_cases h1 : kv.1 = k
    · simp [h1]
    · have h' : ¬ (kv.1.map kI) = k.map kI := fun e => h1 (kIs_inj e)
      simp only [h1, h', decide_false]
      refine ih ⟨v, ?_⟩
      rcases List.mem_cons.mp h with e | h
      · exact absurd (by rw [← e]) h1
      · exact h
theorem dLook_nat (d : DcN) (k : List Nat) : ∃ o, dLook (dcD d) (.tup (k.map nD)) = some o ∧ o.getD (.int 0) = .int (lookN k d) := by
  refine ⟨valD (dcK d) (k.map kI), ?_, valD_nat k d⟩
  unfold dLook dcD
  dsimp only
  rw [ksOf_nat]
def keysN (d : DcN) : List (List Nat) := d.map (·.1)
theorem addN_keys (k : List Nat) (v : Int) : ∀ d : DcN, keysN (addN k v d) = if k ∈ keysN d then keysN d else keysN d ++ [k]
  | [] => rfl
  | kv :: d => by
    have ih := addN_keys k v d
    unfold addN
    by_cases h : kv.1 = k
    · rw [if_pos h]
      have hm : k ∈ keysN (kv :: d) := by unfold keysN; rw [List.map_cons, h]; exact List.mem_cons_self ..
      rw [if_pos hm]; rfl
    · rw [if_neg h]
      unfold keysN at *
      rw [List.map_cons, List.map_cons, ih]
      by_cases h2 : k ∈ d.map (·.1)
      · rw [if_pos h2, if_pos (List.mem_cons_of_mem _ h2)]
      · rw [if_neg h2, if_neg (fun h3 => (List.mem_cons.mp h3).elim (fun e => h e.symm) h2)]; rfl
theorem addN_nodup {k : List Nat} {v : Int} {d : DcN} (h : (keysN d).Nodup) : (keysN (addN k v d)).Nodup := by
  rw [addN_keys]
  by_cases h2 : k ∈ keysN d
  · rw [if_pos h2]; exact h
  · rw [if_neg h2]
    refine List.nodup_append.mpr ⟨h, by simp, fun a ha b hb e => ?_⟩
    rw [List.mem_singleton] at hb
    subst hb; subst e; exact h2 ha
theorem addN_len (k : List Nat) (v : Int) (d : DcN) : (addN k v d).length ≤ d.length + 1 := by
  have e : (addN k v d).length = (keysN (addN k v d)).length := by unfold keysN; rw [List.length_map]
  have e2 : d.length = (keysN d).length := by unfold keysN; rw [List.length_map]
  rw [e, addN_keys, e2]
  split
  · omega
  · rw [List.length_append]; simp
theorem addN_mem {k k' : List Nat} {v : Int} {d : DcN} (h : k' ∈ keysN (addN k v d)) : k' = k ∨ k' ∈ keysN d := by
  rw [addN_keys] at h
  split at h
  · exact .inr h
  · rcases List.mem_append.mp h with h | h
    · exact .inr h
    · exact .inl (List.mem_singleton.mp h)
theorem lookN_none {k : List Nat} : ∀ {d : DcN}, ¬ k ∈ keysN d → lookN k d = 0
  | [], _ => rfl
  | kv :: d, h => by
    have h1 : ¬ kv.1 = k := fun e => h (by unfold keysN; rw [List.map_cons, e]; exact List.mem_cons_self ..)
    have := lookN_none (d := d) (k := k) (fun h2 => h (by unfold keysN; rw [List.map_cons]; exact List.mem_cons_of_mem _ h2))
    unfold lookN at *
    rw [List.find?_cons]
    simp only [h1, decide_false]
    exact this
theorem put_out {k : List Nat} {x : D} : ∀ {d : DcN}, ¬ k ∈ keysN d → ((dcK d).any fun kv => decide (kv.1 = k.map kI)) = false
  | [], _ => rfl
  | kv :: d, h => by
    have h1 : ¬ kv.1 = k := fun e => h (by unfold keysN; rw [List.map_cons, e]; exact List.mem_cons_self ..)
    have h' : ¬ (kv.1.map kI) = k.map kI := fun e => h1 (kIs_inj e)
    have := put_out (x := x) (d := d) (k := k) (fun h2 => h (by unfold keysN; rw [List.map_cons]; exact List.mem_cons_of_mem _ h2))
    unfold dcK at *
    rw [List.map_cons, List.any_cons, this]
    simp [h']
theorem put_map {k : List Nat} {x : D} : ∀ {d : DcN}, ¬ k ∈ keysN d → ((dcK d).map fun kv => if kv.1 = k.map kI then (kv.1, x) else kv) = dcK d
  | [], _ => rfl
  | kv :: d, h => by
    have h1 : ¬ kv.1 = k := fun e => h (by unfold keysN; rw [List.map_cons, e]; exact List.mem_cons_self ..)
    have h' : ¬ (kv.1.map kI) = k.map kI := fun e => h1 (kIs_inj e)
    have := put_map (x := x) (d := d) (k := k) (fun h2 => h (by unfold keysN; rw [List.map_cons]; exact List.mem_cons_of_mem _ h2))
    unfold dcK at *
    rw [List.map_cons, List.map_cons, this, if_neg h']
theorem put_add (k : List Nat) (v : Int) : ∀ d : DcN, (keysN d).Nodup → putD (dcK d) (k.map kI) (.int (lookN k d + v)) = dcK (addN k v d)
  | [], _ => by unfold putD addN dcK lookN; simp
  | kv :: d, hn => by
    have hn' : (keysN d).Nodup := (List.nodup_cons.mp hn).2
    have hk : ¬ kv.1 ∈ keysN d := (List.nodup_cons.mp hn).1
    by_cases h1 : kv.1 = k
    · have hk' : ¬ k ∈ keysN d := h1 ▸ hk
      have hl : lookN k (kv :: d) = kv.2 := by unfold lookN; rw [List.find?_cons]; simp [h1]
      rw [hl]
      unfold putD addN
      rw [if_pos h1]
      have ha : ((dcK (kv :: d)).any fun kv => decide (kv.1 = k.map kI)) = true := by unfold dcK; rw [List.map_cons, List.any_cons, h1]; simp
      rw [if_pos ha]
      have hm := put_map (x := .int (kv.2 + v)) hk'
      unfold dcK at *
      rw [List.map_cons, List.map_cons, hm, h1]
      simp
    · have h' : ¬ (kv.1.map kI) = k.map kI := fun e => h1 (kIs_inj e)
      have hl : lookN k (kv :: d) = lookN k d := by unfold lookN; rw [List.find?_cons]; simp [h1]
      have ih := put_add k v d hn'
      rw [hl]
      unfold addN
      rw [if_neg h1]
      unfold putD at *
      have ea : ((dcK (kv :: d)).any fun kv => decide (kv.1 = k.map kI)) = ((dcK d).any fun kv => decide (kv.1 = k.map kI)) := by
        unfold dcK; rw [List.map_cons, List.any_cons]; simp [h']
      rw [ea]
      have ec : dcK (kv :: addN k v d) = (kv.1.map kI, D.int kv.2) :: dcK (addN k v d) := rfl
      have ec2 : dcK (kv :: d) = (kv.1.map kI, D.int kv.2) :: dcK d := rfl
      rw [ec, ← ih, ec2]
      split
      · rw [List.map_cons, if_neg h']
      · rfl
theorem muSet_nat {d : DcN} {k : List Nat} {v : Int} (hn : (keysN d).Nodup) (hl : d.length < 100000) : muSet (dcD d) (.tup (k.map nD)) (.int (lookN k d + v)) = some (dcD (addN k v d)) := by
  unfold muSet dcD
  dsimp only
  rw [ksOf_nat]
  dsimp only
  rw [if_pos (by unfold dcK; rw [List.length_map]; exact hl), put_add k v d hn]
/-! slices of plain lists -/
theorem cut_to {α : Type} (l : List α) (a : Nat) : cutA l none (some (a : Nat)) = l.take a := by
  unfold cutA
  rw [HT.sIx_none, HT.sIx_nat, List.drop_zero, Nat.sub_zero]
  by_cases h : a ≤ l.length
  · rw [Nat.min_eq_left h]
  · rw [Nat.min_eq_right (by omega), List.take_of_length_le (Nat.le_refl _), List.take_of_length_le (by omega)]
theorem cut_from {α : Type} (l : List α) (a : Nat) : cutA l (some (a : Nat)) none = l.drop a := by
  unfold cutA
  rw [HT.sIx_none, HT.sIx_nat]
  by_cases h : a ≤ l.length
  · rw [Nat.min_eq_left h, List.take_of_length_le (by rw [List.length_drop]; omega)]
  · rw [Nat.min_eq_right (by omega), List.drop_of_length_le (Nat.le_refl _), List.drop_of_length_le (by omega), List.take_nil]
theorem cut_mid {α : Type} (l : List α) (a c : Nat) : cutA l (some (a : Nat)) (some ((a + c : Nat) : Int)) = (l.drop a).take c := by
  unfold cutA
  rw [HT.sIx_nat, HT.sIx_nat]
  by_cases h : a ≤ l.length
  · rw [Nat.min_eq_left h]
    by_cases h2 : a + c ≤ l.length
    · rw [Nat.min_eq_left h2]; congr 1; omega
    · rw [Nat.min_eq_right (by omega), List.take_of_length_le (by rw [List.length_drop]; omega), List.take_of_length_le (by rw [List.length_drop]; omega)]
  · have e : min a l.length = l.length := Nat.min_eq_right (by omega)
    rw [e, List.drop_of_length_le (Nat.le_refl _), List.drop_of_length_le (i := a) (by omega), List.take_nil, List.take_nil]
theorem pyNat (l : List Nat) : pyOfL (l.map nD) = some (l.map fun n => PyData.int (n : Nat)) := by
  induction l with
  | nil => rfl
  | cons a l ih => rw [List.map_cons]; unfold pyOfL; rw [ih]; rfl
theorem inV_nat (x : Int) : ∀ l : List Nat, inV (.int x) ((l.map nD).map cVd) = l.any fun n => decide (((n : Nat) : Int) = x)
  | [] => rfl
  | a :: l => by
    have ih := inV_nat x l
    show inV (.int x) (V.int (a : Nat) :: (l.map nD).map cVd) = _
    rw [List.any_cons, ← ih]
    simp [inV, eqV]
    try rfl
end
end Pf
/-! part Nt -/
set_option Elab.async false
set_option linter.all false
set_option maxRecDepth 1000000
set_option maxHeartbeats 0
/-! Nt: the two traces of k14, on plain lists; the finite check. -/
namespace N14
open Pf
def parts : Nat → Nat → Nat → List (List Nat)
  | 0, _, _ => []
  | k + 1, n, m => if n = 0 then [[]] else (List.range (min n m)).flatMap fun t => (parts k (n - (min n m - t)) (min n m - t)).map fun r => (min n m - t) :: r
abbrev Dc := List (List Nat × Int)
noncomputable def beqL (l : List Nat) : List Nat → Bool := List.rec (motive := fun _ => List Nat → Bool) (fun m => List.rec (motive := fun _ => Bool) true (fun _ _ _ => false) m) (fun a _ ih m => List.rec (motive := fun _ => Bool) false (fun b m' _ => bif Nat.beq a b then ih m' else false) m) l
noncomputable def addK (k : List Nat) (v : Int) (d : Dc) : Dc := List.rec (motive := fun _ => Dc) [(k, 0 + v)] (fun kv l ih => bif beqL kv.1 k then (kv.1, kv.2 + v) :: l else kv :: ih) d
noncomputable def lookD (k : List Nat) (d : Dc) : Int := List.rec (motive := fun _ => Int) 0 (fun kv _ ih => bif beqL kv.1 k then kv.2 else ih) d
/-- how many of a list are above a and below b -/
noncomputable def cnt (a b : Nat) (l : List Nat) : Nat := List.rec (motive := fun _ => Nat) 0 (fun x _ ih => bif Nat.blt a x && Nat.blt x b then Nat.succ ih else ih) l
noncomputable def mem (x : Nat) (l : List Nat) : Bool := List.rec (motive := fun _ => Bool) false (fun y _ ih => bif Nat.beq x y then true else ih) l
noncomputable def insD (x : Nat) (l : List Nat) : List Nat := List.rec (motive := fun _ => List Nat) [x] (fun y l ih => bif Nat.blt y x then x :: y :: l else y :: ih) l
noncomputable def era (n : Nat) (l : List Nat) : List Nat := List.rec (motive := fun _ => Nat → List Nat) (fun _ => []) (fun x l ih n => Nat.rec (motive := fun _ => List Nat) l (fun m _ => x :: ih m) n) l n
def sg (n : Nat) (v : Int) : Int := bif Nat.beq (n % 2) 0 then v else -v
/-! backwards: hooks are taken off -/
def leftN (g : List Nat) (a c lo : Nat) : List Nat := g.take a ++ ((g.drop (a + 1)).take c ++ (lo :: g.drop (a + 1 + c)))
noncomputable def stepB (p : Nat) (g : List Nat) (v : Int) (a : Nat) (l : List Nat) (acc : Dc) : Dc := List.rec (motive := fun _ => Nat → Dc → Dc) (fun _ acc => acc)
  (fun x _ ih a acc => ih (a + 1) (bif Nat.ble p x && !(mem (x - p) g) then addK (leftN g a (cnt (x - p) x g) (x - p)) (sg (cnt (x - p) x g) v) acc else acc)) l a acc
noncomputable def turnB (p : Nat) (fd : Dc) : Dc := fd.foldl (fun acc kv => stepB p kv.1 kv.2 0 kv.1 acc) []
def degN (n i : Nat) : List Nat → List Nat
  | [] => []
  | s :: S => (s + n - 1 - i) :: degN n (i + 1) S
def sumV : Dc → Int
  | [] => 0
  | kv :: l => kv.2 + sumV l
def few (d : Dc) : Bool := Nat.ble d.length 1000
noncomputable def runB : List Nat → Dc → Option Dc
  | [], d => some d
  | p :: mu, d => bif few (turnB p d) then runB mu (turnB p d) else none
noncomputable def back (S mu : List Nat) : Option Int := match runB mu [(degN S.length 0 S, 1)] with
  | some d => some (sumV d)
  | none => none
/-! forwards -/
noncomputable def stepF (p : Nat) (g : List Nat) (v : Int) (a : Nat) (l : List Nat) (acc : Dc) : Dc := List.rec (motive := fun _ => Nat → Dc → Dc) (fun _ acc => acc)
  (fun x _ ih a acc => ih (a + 1) (bif mem (x + p) g then acc else addK (insD (x + p) (era a g)) (sg (cnt x (x + p) g) v) acc)) l a acc
noncomputable def turnF (p : Nat) (fd : Dc) : Dc := fd.foldl (fun acc kv => stepF p kv.1 (lookD kv.1 fd) 0 kv.1 acc) []
def stair : Nat → List Nat
  | 0 => []
  | n + 1 => n :: stair n
/-! hashes -/
def hAcc (acc h : Nat) : Nat :=
  let acc := (acc + h * 14029467366897019727) % 18446744073709551616
  let acc := (acc * 2147483648) % 18446744073709551616 + acc / 8589934592
  (acc * 11400714785074694791) % 18446744073709551616
def foldH (f : Nat → Nat → Nat) : List Nat → Nat → Nat
  | [], acc => acc
  | x :: l, acc => foldH f l (f acc x)
def hStep (acc x : Nat) : Nat := hAcc acc (x % 2305843009213693951)
def hFold (l : List Nat) (acc : Nat) : Nat := foldH hStep l acc
def hN (g : List Nat) : Nat := (hFold g 2870177450012600261 + (g.length ^^^ (2870177450012600261 ^^^ 3527539))) % 18446744073709551616
/-- hashes that stay as they are: none of the two odd ones -/
def hOk (n : Nat) : Bool := Nat.blt n 18446744073709551614 && !(Nat.beq n 1546275796)
def notIn (n : Nat) : List Nat → Bool
  | [] => true
  | x :: l => bif Nat.beq n x then false else notIn n l
def ndN : List Nat → Bool
  | [] => true
  | x :: l => bif notIn x l then ndN l else false
def small (v : Int) : Bool := Nat.blt v.natAbs 1000000000000
def okD (d : Dc) : Bool := few d && d.all (fun kv => small kv.2)
/-- the falling lists of n numbers whose sum is e above the least one -/
def fl : Nat → Nat → Nat → List (List Nat)
  | 0, e, _ => if e = 0 then [[]] else []
  | n + 1, e, b => (List.range (min e b + 1)).flatMap fun j => (fl n (e - j) j).map fun r => (n + j) :: r
def okFl (n e : Nat) : Bool := ((fl n e 100).map hN).all hOk && ndN ((fl n e 100).map hN)
noncomputable def runF : List Nat → Dc → Option Dc
  | [], d => some d
  | p :: mu, d => bif okD (turnF p d) then runF mu (turnF p d) else none
def conj (S : List Nat) : List Nat := match S with
  | [] => []
  | s :: _ => (List.range s).map fun c => (S.filter (fun x => decide (c < x))).length
def fars (n : Nat) : List Nat := bif Nat.beq n 0 then [1] else (List.range n).map (· + 1)
def farN (S : List Nat) : Nat := max 1 S.length
def target (S : List Nat) : List Nat := match S with | [] => [0] | _ => degN S.length 0 S
def menu (n : Nat) : List (List Nat) := (parts 14 n n).filter fun t => decide (n < 9) || decide (t.length < 5)
def sgnMu (mu : List Nat) : Bool := Nat.beq ((mu.filter fun x => Nat.beq (x % 2) 0).length % 2) 0
def ieqB (a b : Int) : Bool := match a, b with
  | .ofNat x, .ofNat y => Nat.beq x y
  | .negSucc x, .negSucc y => Nat.beq x y
  | _, _ => false
/-- all shapes of so many rows, one kind -/
noncomputable def chk1 (n far : Nat) (mu : List Nat) (Ss : List (List Nat)) : Bool := match runF mu [(stair far, 1)] with
  | none => false
  | some d => Ss.all fun S => match back S mu with
    | some v => ieqB (lookD (target S) d) v
    | none => false
noncomputable def chkF (n far : Nat) : Bool := let Ss := (parts 14 n n).filter fun S => Nat.beq (farN S) far; (menu n).all fun mu => chk1 n far mu Ss
noncomputable def chkM (n : Nat) : Bool := (parts 14 n n).all fun S => (menu n).all fun mu => match back (conj S) mu, back S mu with
  | some v, some w => ieqB v (bif sgnMu mu then w else -w)
  | _, _ => false
end N14
/-! part Dr -/
set_option Elab.async false
set_option linter.all false
set_option maxRecDepth 100000
set_option maxHeartbeats 4000000
/-! the draws -/
namespace Law_k14
open PySem L2 Pf
noncomputable section
def J (cs : List Int) (p : Nat) (c l st n : Int) : D := .lst [.lst (cs.map D.int), .int p, .int c, .int l, .int st, .int n]
section
variable (a b c d e f : D)
theorem at0 : atI [a, b, c, d, e, f] 0 = some a := rfl
theorem at1 : atI [a, b, c, d, e, f] 1 = some b := rfl
theorem at2 : atI [a, b, c, d, e, f] 2 = some c := rfl
theorem at3 : atI [a, b, c, d, e, f] 3 = some d := rfl
theorem at4 : atI [a, b, c, d, e, f] 4 = some e := rfl
theorem at5 : atI [a, b, c, d, e, f] 5 = some f := rfl
theorem ix1 : ixN 6 1 = some 1 := rfl
theorem ix2 : ixN 6 2 = some 2 := rfl
theorem ix3 : ixN 6 3 = some 3 := rfl
theorem ix4 : ixN 6 4 = some 4 := rfl
theorem ix5 : ixN 6 5 = some 5 := rfl
end
theorem draw_end (cs : List Int) (p : Nat) (c st n top : Int) (hp : ¬ (p : Int) < cs.length) (h1 : okMul (n + 1) 1299709 = true) (h2 : okPow st 3 = true)
    (h3 : okMul ((st ^ 3 + (n + 1) * 1299709 + 104729) % 2147483579 % 6007) 71 = true) (h0 : 0 < top) :
    m_law_draw [J cs p c 0 st n, .int top] = .ok false (.int (((st ^ 3 + (n + 1) * 1299709 + 104729) % 2147483579 / 61 + (st ^ 3 + (n + 1) * 1299709 + 104729) % 2147483579 % 6007 * 71) % top)) (J cs p c 0 ((st ^ 3 + (n + 1) * 1299709 + 104729) % 2147483579) (n + 1)) := by
  have o1 : okDiv 0 61 = true := by decide
  have o2 : ∀ i, okDiv i 61 = true := fun i => by unfold okDiv; decide
  unfold m_law_draw mI w_law_draw J
  simp [startI, startV, sSeq, sSet, evO, eC, eP, p1, p2, qR, qP, qC, gtR_eq, gt, Hd.get, muSet, prAdd, prMul, prI, prMod, okMod, prSubQ_eq, prLenQ_eq, prSub', prOr, prIx, prDIx, prInt, prLen, seqOf, prEq, eqD, prLt, prGe, prGt, prPow, prDiv, tAn, tPf, sIf, sAsgR, asgR, setR_eq, fIf, eVarR, nthR_eq, sRetVR, sRet, finI, out0, sNx,
    at0, at1, at2, at3, at4, at5, ix1, ix2, ix3, ix4, ix5, hp, h1, h2, h3, h0, o2]
theorem draw_dig (cs : List Int) (p : Nat) (c l st n top : Int) (hl : 0 < l) (h0 : 0 < top) (h1 : ∀ i, okDiv i top = true) :
    m_law_draw [J cs p c l st n, .int top] = .ok false (.int (c % top)) (J cs p (c / top) (if 0 < c / top then l - 1 else 0) st (n + 1)) := by
  have hl0 : ¬ l = 0 := by omega
  unfold m_law_draw mI w_law_draw J
  by_cases hc : 0 < c / top
  · simp [startI, startV, sSeq, sSet, evO, eC, eP, p1, p2, qR, qP, qC, gtR_eq, gt, Hd.get, muSet, prAdd, prSub, prMul, prI, prMod, okMod, prSubQ_eq, prLenQ_eq, prSub', prOr, prIx, prDIx, prInt, prLen, seqOf, prEq, eqD, prLt, prGe, prGt, prPow, prDiv, tAn, tPf, sIf, sAsgR, asgR, setR_eq, fIf, eVarR, nthR_eq, sRetVR, sRet, finI, out0, sNx,
    at0, at1, at2, at3, at4, at5, ix1, ix2, ix3, ix4, ix5, hl, hl0, h0, h1, hc]
  · simp [startI, startV, sSeq, sSet, evO, eC, eP, p1, p2, qR, qP, qC, gtR_eq, gt, Hd.get, muSet, prAdd, prSub, prMul, prI, prMod, okMod, prSubQ_eq, prLenQ_eq, prSub', prOr, prIx, prDIx, prInt, prLen, seqOf, prEq, eqD, prLt, prGe, prGt, prPow, prDiv, tAn, tPf, sIf, sAsgR, asgR, setR_eq, fIf, eVarR, nthR_eq, sRetVR, sRet, finI, out0, sNx,
    at0, at1, at2, at3, at4, at5, ix1, ix2, ix3, ix4, ix5, hl, hl0, h0, h1, hc]
theorem draw_big (cs : List Int) (p : Nat) (c cell st n top : Int) (hp : (p : Int) < cs.length) (hx : atI (cs.map D.int) (p : Int) = some (.int cell)) (hb : 1000000000000000000 ≤ cell) (h0 : 0 < top) (h1 : ∀ i, okDiv i top = true) (h2 : okPow 10 18 = true) :
    m_law_draw [J cs p c 0 st n, .int top] = .ok false (.int (cell % top)) (J cs (p + 1) (cell / top) (if 0 < cell / top then 59 else 0) st (n + 1)) := by
  unfold m_law_draw mI w_law_draw J
  by_cases hc : 0 < cell / top
  · simp [startI, startV, sSeq, sSet, evO, eC, eP, p1, p2, qR, qP, qC, gtR_eq, gt, Hd.get, muSet, prAdd, prSub, prMul, prI, prMod, okMod, prSubQ_eq, prLenQ_eq, prSub', prOr, prIx, prDIx, prInt, prLen, seqOf, prEq, eqD, prLt, prGe, prGt, prPow, prDiv, tAn, tPf, sIf, sAsgR, asgR, setR_eq, fIf, eVarR, nthR_eq, sRetVR, sRet, finI, out0, sNx,
    at0, at1, at2, at3, at4, at5, ix1, ix2, ix3, ix4, ix5, hp, hx, hb, h0, h1, h2, hc]
  · simp [startI, startV, sSeq, sSet, evO, eC, eP, p1, p2, qR, qP, qC, gtR_eq, gt, Hd.get, muSet, prAdd, prSub, prMul, prI, prMod, okMod, prSubQ_eq, prLenQ_eq, prSub', prOr, prIx, prDIx, prInt, prLen, seqOf, prEq, eqD, prLt, prGe, prGt, prPow, prDiv, tAn, tPf, sIf, sAsgR, asgR, setR_eq, fIf, eVarR, nthR_eq, sRetVR, sRet, finI, out0, sNx,
    at0, at1, at2, at3, at4, at5, ix1, ix2, ix3, ix4, ix5, hp, hx, hb, h0, h1, h2, hc]
theorem draw_small (cs : List Int) (p : Nat) (c cell st n top st1 : Int) (hp : (p : Int) < cs.length) (hx : atI (cs.map D.int) (p : Int) = some (.int cell)) (hb : ¬ 1000000000000000000 ≤ cell) (h2 : okPow 10 18 = true)
    (hs : okMul st 40093 = true) (hm : okMul (cell % 2147483549) 7919 = true) (e1 : (st * 40093 + cell % 2147483549 * 7919 + 97) % 2147483579 = st1) (h1 : okMul (n + 1) 1299709 = true) (h4 : okPow st1 3 = true)
    (h3 : okMul ((st1 ^ 3 + (n + 1) * 1299709 + 104729) % 2147483579 % 6007) 71 = true) (h0 : 0 < top) :
    m_law_draw [J cs p c 0 st n, .int top] = .ok false (.int (((st1 ^ 3 + (n + 1) * 1299709 + 104729) % 2147483579 / 61 + (st1 ^ 3 + (n + 1) * 1299709 + 104729) % 2147483579 % 6007 * 71) % top)) (J cs (p + 1) c 0 ((st1 ^ 3 + (n + 1) * 1299709 + 104729) % 2147483579) (n + 1)) := by
  have o2 : ∀ i, okDiv i 61 = true := fun i => by unfold okDiv; decide
  unfold m_law_draw mI w_law_draw J
  simp [startI, startV, sSeq, sSet, evO, eC, eP, p1, p2, qR, qP, qC, gtR_eq, gt, Hd.get, muSet, prAdd, prSub, prMul, prI, prMod, okMod, prSubQ_eq, prLenQ_eq, prSub', prOr, prIx, prDIx, prInt, prLen, seqOf, prEq, eqD, prLt, prGe, prGt, prPow, prDiv, tAn, tPf, sIf, sAsgR, asgR, setR_eq, fIf, eVarR, nthR_eq, sRetVR, sRet, finI, out0, sNx,
    at0, at1, at2, at3, at4, at5, ix1, ix2, ix3, ix4, ix5, hp, hx, hb, h0, h1, h2, hs, hm, e1, h4, h3, o2]
end
end Law_k14
/-! part Dr2 -/
set_option Elab.async false
set_option linter.all false
set_option maxRecDepth 100000
set_option maxHeartbeats 4000000
namespace Law_k14
open PySem L2 Pf
noncomputable section
theorem log2_lt {n k : Nat} (hk : 0 < k) (h : n < 2 ^ k) : n.log2 < k := by
  by_cases h0 : n = 0
  · subst h0; simpa using hk
  · exact (Nat.log2_lt h0).mpr h
theorem okMul_of {i j : Int} (h : i.natAbs < 2 ^ 100) (h' : j.natAbs < 2 ^ 100) : okMul i j = true := by
  have a := log2_lt (by decide) h
  have b := log2_lt (by decide) h'
  unfold okMul
  exact decide_eq_true (by omega)
theorem okDiv_of {i j : Int} (h0 : 0 < j) (h : j.natAbs < 2 ^ 100) : okDiv i j = true := by
  have a := log2_lt (by decide) h
  unfold okDiv
  rw [Bool.and_eq_true, decide_eq_true_eq, decide_eq_true_eq]
  exact ⟨h0, by omega⟩
theorem okPow3 {i : Int} (h : i.natAbs < 2 ^ 64) : okPow i 3 = true := by
  unfold okPow
  rw [Bool.and_eq_true, Bool.and_eq_true, decide_eq_true_eq, decide_eq_true_eq, decide_eq_true_eq]
  exact ⟨⟨by decide, by decide⟩, h⟩
theorem nat_lt {i : Int} {b : Nat} (h : 0 ≤ i) (h' : i < (b : Int)) : i.natAbs < b := by omega
def JarOk (N : Nat) (j : D) : Prop := ∃ cs p c l st n, j = J cs p c l st n ∧ 0 ≤ l ∧ 0 ≤ st ∧ st < 2147483579 ∧ 0 ≤ n ∧ n ≤ (N : Int)
theorem draw_ok {N : Nat} {j : D} {top : Int} (h : JarOk N j) (h0 : 0 < top) (ht : top < 1000000) (hN : N < 1000000) :
    ∃ r j', m_law_draw [j, .int top] = .ok false (.int r) j' ∧ 0 ≤ r ∧ r < top ∧ JarOk (N + 1) j' := by
  obtain ⟨cs, p, c, l, st, n, rfl, hl, hs0, hs1, hn0, hn1⟩ := h
  have hdv : ∀ i, okDiv i top = true := fun i => okDiv_of h0 (Nat.lt_of_lt_of_le (nat_lt (b := 1000000) (by omega) ht) (by decide))
  have hm1 : okMul (n + 1) 1299709 = true := okMul_of (Nat.lt_of_lt_of_le (nat_lt (b := 1000001) (by omega) (by omega)) (by decide)) (by decide)
  have mlt : ∀ x : Int, 0 ≤ x % 2147483579 ∧ x % 2147483579 < 2147483579 := fun x => ⟨Int.emod_nonneg _ (by decide), Int.emod_lt_of_pos _ (by decide)⟩
  have m6 : ∀ x : Int, okMul (x % 6007) 71 = true := fun x => okMul_of (Nat.lt_of_lt_of_le (nat_lt (b := 6007) (Int.emod_nonneg _ (by decide)) (Int.emod_lt_of_pos _ (by decide))) (by decide)) (by decide)
  have hst3 : ∀ x : Int, 0 ≤ x → x < 2147483579 → okPow x 3 = true := fun x a b => okPow3 (Nat.lt_of_lt_of_le (nat_lt (b := 2147483579) a b) (by decide))
  have rt : ∀ x : Int, 0 ≤ x % top ∧ x % top < top := fun x => ⟨Int.emod_nonneg _ (by omega), Int.emod_lt_of_pos _ h0⟩
  by_cases hl0 : l = 0
  · subst hl0
    by_cases hp : (p : Int) < cs.length
    · have hp' : p < cs.length := by omega
      have hx : atI (cs.map D.int) (p : Int) = some (.int cs[p]) := by
        unfold atI ixN
        rw [if_pos (by omega), if_pos (by rw [List.length_map]; exact hp)]
        simp [hp']
      by_cases hb : 1000000000000000000 ≤ cs[p]
      · refine ⟨_, _, draw_big cs p c cs[p] st n top hp hx hb h0 hdv (by decide), (rt _).1, (rt _).2, cs, p + 1, _, _, st, n + 1, rfl, ?_, hs0, hs1, by omega, by omega⟩
        split <;> omega
      · refine ⟨_, _, draw_small cs p c cs[p] st n top _ hp hx hb (by decide) (okMul_of (Nat.lt_of_lt_of_le (nat_lt (b := 2147483579) hs0 hs1) (by decide)) (by decide))
          (okMul_of (Nat.lt_of_lt_of_le (nat_lt (b := 2147483549) (Int.emod_nonneg _ (by decide)) (Int.emod_lt_of_pos _ (by decide))) (by decide)) (by decide)) rfl hm1 (hst3 _ (mlt _).1 (mlt _).2) (m6 _) h0, (rt _).1, (rt _).2, cs, p + 1, c, 0, _, n + 1, rfl, Int.le_refl _, (mlt _).1, (mlt _).2, by omega, by omega⟩
    · exact ⟨_, _, draw_end cs p c st n top hp hm1 (hst3 _ hs0 hs1) (m6 _) h0, (rt _).1, (rt _).2, cs, p, c, 0, _, n + 1, rfl, Int.le_refl _, (mlt _).1, (mlt _).2, by omega, by omega⟩
  · refine ⟨_, _, draw_dig cs p c l st n top (by omega) h0 hdv, (rt _).1, (rt _).2, cs, p, _, _, st, n + 1, rfl, ?_, hs0, hs1, by omega, by omega⟩
    split <;> omega
end
end Law_k14
/-! part Rf -/
set_option Elab.async false
set_option linter.all false
set_option maxRecDepth 100000
set_option maxHeartbeats 4000000
namespace Law_k14
open PySem L2 Pf
noncomputable section
def iD (n : Nat) : D := .int (n : Nat)
theorem lc_nil {vs t c el ρ} : loopCR vs t c el [] ρ = .ok [] ρ := rfl
theorem lc_cons {vs t c el ρ} {d : D} {ds : List D} : loopCR vs t c el (d :: ds) ρ = (match asgR t false d ρ with
    | none => .no
    | some ρ1 => match c ρ1 with
      | .ok true ρ2 => match el ρ2 with
        | .ok _ y ρ3 => (loopCR vs t c el ds (wipeR ρ3 vs)).con y
        | .ex x ρ3 => .ex x ρ3
        | .no => .no
      | .ok false ρ2 => loopCR vs t c el ds (wipeR ρ2 vs)
      | .ex x ρ2 => .ex x ρ2
      | .no => .no) := rfl
theorem i_lt {i j : Int} : prLt [.int i, .int j] = some (false, .bl (decide (i < j))) := rfl
theorem i_le {i j : Int} : prLe [.int i, .int j] = some (false, .bl (decide (i ≤ j))) := rfl
theorem i_gt {i j : Int} : prGt [.int i, .int j] = some (false, .bl (decide (j < i))) := rfl
theorem i_ge {i j : Int} : prGe [.int i, .int j] = some (false, .bl (decide (j ≤ i))) := rfl
theorem i_add {i j : Int} : prAdd [.int i, .int j] = some (false, .int (i + j)) := rfl
theorem i_sub {i j : Int} : prSub [.int i, .int j] = some (false, .int (i - j)) := rfl
theorem i_mul {i j : Int} (h : okMul i j = true) : prMul [.int i, .int j] = some (false, .int (i * j)) := by unfold prMul prI; simp [h]
theorem i_div {i j : Int} (h : okDiv i j = true) : prDiv [.int i, .int j] = some (false, .int (i / j)) := by unfold prDiv prI; simp [h]
theorem i_mod {i j : Int} (h : 0 < j) : prMod [.int i, .int j] = some (false, .int (i % j)) := by unfold prMod prI okMod; simp [h]
theorem i_eq {i j : Int} : prEq [.int i, .int j] = some (false, .bl (decide (i = j))) := rfl
theorem i_ne {i j : Int} : prNe [.int i, .int j] = some (false, .bl (!decide (i = j))) := rfl
theorem q_tup {ds : List D} {i : Int} {d : D} (h : atI ds i = some d) : prSubQ [.tup ds, .int i] = some (false, d) := by
  rw [show prSubQ [.tup ds, .int i] = (match atD ds i with | some d => some (false, d) | none => none) from rfl, atD_eq, h]
theorem q_lst {ds : List D} {i : Int} {d : D} (h : atI ds i = some d) : prSubQ [.lst ds, .int i] = some (false, d) := by
  rw [show prSubQ [.lst ds, .int i] = (match atD ds i with | some d => some (false, d) | none => none) from rfl, atD_eq, h]
theorem l_tup {ds : List D} : prLenQ [.tup ds] = some (false, .int (ds.length : Nat)) := by
  rw [show prLenQ [.tup ds] = some (false, .int (lenD ds : Nat)) from rfl, lenD_eq]
theorem l_lst {ds : List D} : prLenQ [.lst ds] = some (false, .int (ds.length : Nat)) := by
  rw [show prLenQ [.lst ds] = some (false, .int (lenD ds : Nat)) from rfl, lenD_eq]
theorem cols_in (S : List Nat) (c : Nat) (X : D) : loopCR [2] (.n 2) (tPf (p2 prGt (qR 2) (qR 1))) (eVarR 2) (S.map iD) [some (.fz, X), some (.fz, .int (c : Nat)), none] = .ok ((S.filter (fun s => decide (c < s))).map iD) [some (.fz, X), some (.fz, .int (c : Nat)), none] := by
  induction S with
  | nil => rfl
  | cons s S ih =>
    rw [List.map_cons, lc_cons]
    by_cases h : c < s
    · have h' : (c : Int) < (s : Int) := by omega
      simp [asgR, setR_eq, tPf, p2, qR, gtR_eq, gt, i_gt, eVarR, nthR_eq, wipeR, iD, h, h']
      rw [ih]; rfl
    · have h' : ¬ (c : Int) < (s : Int) := by omega
      simp [asgR, setR_eq, tPf, p2, qR, gtR_eq, gt, i_gt, eVarR, nthR_eq, wipeR, iD, h, h']
      exact ih
def conj (S : List Nat) : List Nat := match S with
  | [] => []
  | s :: _ => (List.range s).map fun c => (S.filter (fun x => decide (c < x))).length
theorem cols_out (S : List Nat) (hS : S.length ≤ 1000) (cs : List Nat) : loopCR [1] (.n 1) tYe (fPrim prLenQ [(.e (fLcR [2] (iSeq (eVarR 0)) (.n 2) (tPf (p2 prGt (qR 2) (qR 1))) (eVarR 2)))]) (cs.map iD) [some (.fz, .tup (S.map iD)), none, none] =
    .ok ((cs.map fun c => (S.filter (fun x => decide (c < x))).length).map iD) [some (.fz, .tup (S.map iD)), none, none] := by
  have e : (S.map iD).length ≤ 100000 := by rw [List.length_map]; omega
  have inner : ∀ c : Nat, fLcR [2] (iSeq (eVarR 0)) (.n 2) (tPf (p2 prGt (qR 2) (qR 1))) (eVarR 2) [some (.fz, .tup (S.map iD)), some (.fz, .int (c : Nat)), none] =
      .ok true (.lst ((S.filter (fun s => decide (c < s))).map iD)) [some (.fz, .tup (S.map iD)), some (.fz, .int (c : Nat)), none] := fun c => by
    have hin := cols_in S c (.tup (S.map iD))
    have e' : S.length ≤ 100000 := by omega
    simp [fLcR, iSeq, eVarR, nthR_eq, seqOf, okOwn, wipeR, setR_eq, restR, e', hin]
  induction cs with
  | nil => rfl
  | cons c cs ih =>
    rw [List.map_cons, lc_cons]
    simp [asgR, setR_eq, tYe, fPrim, evOs, evO, getAll, Hd.get, l_lst, iD, inner, wipeR, ih, CR.con]
theorem okR_nat {n : Nat} (h : n ≤ 100000) : okR (n : Nat) = true := by
  show decide (n < 4611686018427387904) = true
  exact decide_eq_true (by omega)
theorem rng0 (s : Nat) : rng 0 s = (List.range s).map iD := by unfold rng; apply List.map_congr_left; intro i _; simp [iD]
theorem columns_nil : m_columns_of [.tup []] = .ok false (.tup []) .non := by kernel_rfl
theorem fLcR_ok {vs : List Nat} {F : ITf} {t : Tg} {c : TFn} {el : EF} {ρ ρ1 ρ2 : Ve} {ds ys : List D} (hF : F ρ = .ok ds ρ1) (ho : okOwn ρ1 vs = true) (hl : ds.length ≤ 100000) (hL : loopCR vs t c el ds (wipeR ρ1 vs) = .ok ys ρ2) :
    fLcR vs F t c el ρ = .ok true (.lst ys) (restR ρ1 ρ2 vs) := by
  unfold fLcR
  rw [hF]
  dsimp only
  rw [if_pos ⟨ho, hl⟩, hL]
theorem iRng_nat {o : Opd} {ρ ρ1 : Ve} {h : Hd} {n : Nat} (ho : evO o ρ = .ok h ρ1) (hg : h.get ρ1 = some (.int (n : Nat))) (hn : n ≤ 100000) : iRng [o] ρ = .ok ((List.range n).map iD) ρ1 := by
  unfold iRng evOs
  rw [ho]
  dsimp only [evOs]
  unfold intsGet
  rw [hg]
  dsimp only [intsGet, rngOf]
  rw [if_pos (okR_nat hn)]
  show IR.ok (rng 0 n) ρ1 = _
  rw [rng0]
theorem columns_cons (T : List D) (s : Nat) (Y : List D) (hne : T ≠ []) (q0 : prSubQ [.tup T, .int 0] = some (false, .int (s : Nat))) (hl : s ≤ 100000)
    (hco : loopCR [1] (.n 1) tYe (fPrim prLenQ [(.e (fLcR [2] (iSeq (eVarR 0)) (.n 2) (tPf (p2 prGt (qR 2) (qR 1))) (eVarR 2)))]) ((List.range s).map iD) [some (.fz, .tup T), none, none] = .ok Y [some (.fz, .tup T), none, none]) :
    m_columns_of [.tup T] = .ok false (.tup Y) .non := by
  have comp := fLcR_ok (vs := [1]) (F := iRng [(.e (eP (p2 prSubQ (qR 0) (qC (.int 0)))))]) (ρ := [some (.fz, .tup T), none, none]) (iRng_nat (n := s) (h := .val (.int (s : Nat))) (ρ1 := [some (.fz, .tup T), none, none]) (by simp [evO, eP, p2, qR, qC, gtR_eq, gt, q0]) rfl hl) rfl (by simpa using hl) hco
  unfold m_columns_of mF w_columns_of
  simp [startV, sSeq, sIf, tPf, p2, p1, qP, qR, qC, gtR_eq, gt, l_tup, i_eq, sRet, fPrim, evOs, evO, getAll, Hd.get, comp, prTuple, finF, sNx, hne]
theorem columns_eq (S : List Nat) (hS : S.length ≤ 1000) (hm : ∀ s ∈ S, s ≤ 1000) : m_columns_of [.tup (S.map iD)] = .ok false (.tup ((conj S).map iD)) .non := by
  cases S with
  | nil => exact columns_nil
  | cons s S =>
    have hs := hm s (List.mem_cons_self ..)
    exact columns_cons _ s _ (by simp) (q_tup (by simp [atI, ixN, iD])) (by omega) (cols_out (s :: S) hS (List.range s))
end
end Law_k14
/-! part Rf2 -/
set_option Elab.async false
set_option linter.all false
set_option maxRecDepth 100000
set_option maxHeartbeats 4000000
namespace Law_k14
open PySem L2 Pf
noncomputable section
theorem isInt (i : Int) : m_is_integer [.int i] = .ok false (.bl true) .non := by kernel_rfl
/-- enumerate, from k on -/
def eN : Nat → List Nat → List D
  | _, [] => []
  | k, s :: S => .tup [.int (k : Nat), .int (s : Nat)] :: eN (k + 1) S
theorem enumD_eq (S : List Nat) : enumD (S.map iD) = eN 0 S := by
  have key : ∀ (S : List Nat) (k : Nat), List.zipWith (fun (i : Nat) (d : D) => D.tup [.int (i : Nat), d]) (List.range' k S.length) (S.map iD) = eN k S := by
    intro S
    induction S with
    | nil => intro k; rfl
    | cons s S ih =>
      intro k
      rw [List.length_cons, List.range'_succ, List.map_cons, List.zipWith_cons_cons, ih (k + 1)]
      rfl
  unfold enumD
  rw [List.length_map, List.range_eq_range']
  exact key S 0
theorem l2_cons {vs vs1 t c F1 t1 c1 el n ρ} {d : D} {ds : List D} : loop2R vs vs1 t c F1 t1 c1 el (d :: ds) n ρ = (match asgR t false d ρ with
    | none => CR.no
    | some ρ1 => match c ρ1 with
      | .ok true ρ2 => match F1 ρ2 with
        | .ok ds1 ρ3 => if n + lenD ds1 ≤ 100000 then (match loopCR vs1 t1 c1 el ds1 (wipeR ρ3 vs1) with
          | .ok ys ρ4 => (loop2R vs vs1 t c F1 t1 c1 el ds (n + lenD ds1) (wipeR ρ4 vs)).cat ys
          | .ex x ρ4 => .ex x ρ4
          | .no => .no) else .no
        | .ex x ρ3 => .ex x ρ3
        | .no => .no
      | .ok false ρ2 => loop2R vs vs1 t c F1 t1 c1 el ds n (wipeR ρ2 vs)
      | .ex x ρ2 => .ex x ρ2
      | .no => .no) := rfl
def bx : Nat → List Nat → List D
  | _, [] => []
  | k, s :: S => ((List.range s).map fun c => D.tup [.int (k : Nat), .int (c : Nat)]) ++ bx (k + 1) S
theorem bx_in (cs : List Nat) (k n : Nat) (X : D) : loopCR [3] (.n 3) tYe (fPrimV prTup [(.e (eVarR 1)), (.e (eVarR 3))]) (cs.map iD) [some (.fz, X), some (.fz, .int (k : Nat)), some (.fz, .int (n : Nat)), none] =
    .ok (cs.map fun c => D.tup [.int (k : Nat), .int (c : Nat)]) [some (.fz, X), some (.fz, .int (k : Nat)), some (.fz, .int (n : Nat)), none] := by
  induction cs with
  | nil => rfl
  | cons c cs ih =>
    rw [List.map_cons, lc_cons]
    simp [asgR, setR_eq, tYe, fPrimV, evOs, evO, vals, prTup, eVarR, nthR_eq, wipeR, iD, ih, CR.con]
theorem bx_out (X : D) : ∀ (S : List Nat) (k m : Nat), m + S.sum ≤ 100000 → loop2R [1, 2, 3] [3] (.t [(.n 1), (.n 2)]) tYe (iRng [(.v 2)]) (.n 3) tYe (fPrimV prTup [(.e (eVarR 1)), (.e (eVarR 3))]) (eN k S) m [some (.fz, X), none, none, none] =
    .ok (bx k S) [some (.fz, X), none, none, none] := by
  intro S
  induction S with
  | nil => intro k m h; rfl
  | cons s S ih =>
    intro k m h
    rw [List.sum_cons] at h
    unfold eN bx
    rw [l2_cons]
    have hr := iRng_nat (o := .v 2) (ρ := [some (.fz, X), some (.fz, .int (k : Nat)), some (.fz, .int (s : Nat)), none]) (h := .sl 2) (ρ1 := [some (.fz, X), some (.fz, .int (k : Nat)), some (.fz, .int (s : Nat)), none]) (n := s) rfl rfl (by omega)
    have hl : lenD ((List.range s).map iD) = s := by rw [lenD_eq]; simp
    have ha : asgR (.t [(.n 1), (.n 2)]) false (.tup [.int (k : Nat), .int (s : Nat)]) [some (.fz, X), none, none, none] = some [some (.fz, X), some (.fz, .int (k : Nat)), some (.fz, .int (s : Nat)), none] := rfl
    have hi := ih (k + 1) (m + s) (by omega)
    rw [ha]
    dsimp only [tYe]
    rw [hr]
    dsimp only
    rw [hl, if_pos (by omega)]
    rw [show wipeR [some (.fz, X), some (.fz, .int (k : Nat)), some (.fz, .int (s : Nat)), none] [3] = [some (.fz, X), some (.fz, .int (k : Nat)), some (.fz, .int (s : Nat)), none] from rfl, bx_in]
    dsimp only
    rw [show wipeR [some (.fz, X), some (.fz, .int (k : Nat)), some (.fz, .int (s : Nat)), none] [1, 2, 3] = [some (.fz, X), none, none, none] from rfl]
    rw [hi]
    rfl
theorem boxes_eq (S : List Nat) (h : S.sum ≤ 100000) : m_boxes_of [.tup (S.map iD)] = .ok true (.lst (bx 0 S)) .non := by
  have hF : iEnu2 (eVarR 0) [some (.fz, .tup (S.map iD)), none, none, none] = .ok (eN 0 S) [some (.fz, .tup (S.map iD)), none, none, none] := by
    simp [iEnu2, eVarR, nthR_eq, seqOf, enumD_eq]
  have hL := bx_out (.tup (S.map iD)) S 0 0 (by omega)
  unfold m_boxes_of mF w_boxes_of
  simp [startV, sRet, fLc2R, hF, okOwn, wipeR, setR_eq, hL, restR, nthR_eq, finF]
end
end Law_k14
/-! part Rf3 -/
set_option Elab.async false
set_option linter.all false
set_option maxRecDepth 100000
set_option maxHeartbeats 4000000
namespace Law_k14
open PySem L2 Pf
noncomputable section
theorem okMul_of' {i j : Int} (h : i.natAbs < 2 ^ 100) (h' : j.natAbs < 2 ^ 100) : okMul i j = true := by
  have l : ∀ {n k : Nat}, 0 < k → n < 2 ^ k → n.log2 < k := fun {n k} hk h => by
    by_cases h0 : n = 0
    · subst h0; simpa using hk
    · exact (Nat.log2_lt h0).mpr h
  have a := l (by decide) h
  have b := l (by decide) h'
  unfold okMul
  exact decide_eq_true (by omega)
theorem okDiv_of' {i j : Int} (h0 : 0 < j) (h : j.natAbs < 2 ^ 100) : okDiv i j = true := by
  have a : j.natAbs.log2 < 100 := by
    by_cases h0 : j.natAbs = 0
    · rw [h0]; decide
    · exact (Nat.log2_lt h0).mpr h
  unfold okDiv
  rw [Bool.and_eq_true, decide_eq_true_eq, decide_eq_true_eq]
  exact ⟨h0, by omega⟩
/-- boxes as pairs -/
def pD (p : Nat × Nat) : D := .tup [.int (p.1 : Nat), .int (p.2 : Nat)]
def bxP : Nat → List Nat → List (Nat × Nat)
  | _, [] => []
  | k, s :: S => ((List.range s).map fun c => (k, c)) ++ bxP (k + 1) S
theorem bx_eq : ∀ (S : List Nat) (k : Nat), bx k S = (bxP k S).map pD
  | [], k => rfl
  | s :: S, k => by
    unfold bx bxP
    rw [bx_eq S (k + 1), List.map_append, List.map_map]; rfl
theorem at_nat {S : List Nat} {k s : Nat} (h : S[k]? = some s) : atI (S.map iD) (k : Nat) = some (.int (s : Nat)) := by
  have hk := (List.getElem?_eq_some_iff.mp h).1
  unfold atI ixN
  rw [if_pos (by omega), if_pos (by rw [List.length_map]; omega)]
  simp [h, iD]
def hkF (S C : List Nat) (p : Nat × Nat) : Int := (S.getD p.1 0 : Nat) - (p.2 : Nat) + (C.getD p.2 0 : Nat) - (p.1 : Nat) - 1
def hkOk (S C : List Nat) (p : Nat × Nat) : Bool := decide (p.1 < S.length) && decide (p.2 < C.length) && decide (0 < hkF S C p) && decide (hkF S C p ≤ 64)
def prodF (S C : List Nat) : List (Nat × Nat) → Int → Int
  | [], p => p
  | b :: L, p => prodF S C L (p * hkF S C b)
abbrev bodyF : SF := (sAsgR (.n 2) (eP (p2 prMul (qR 2) (qP (p2 prSub (qP (p2 prSub (qP (p2 prAdd (qP (p2 prSub (qP (p2 prSubQ (qR 0) (qR 3))) (qR 4))) (qP (p2 prSubQ (qR 1) (qR 4))))) (qR 3))) (qC (.int 1)))))))
theorem lp_cons {t body ρ} {d : D} {ds : List D} : loopR t body (d :: ds) ρ = (match asgR t false d ρ with
    | none => .no
    | some ρ1 => match body ρ1 with
      | .nx ρ2 => loopR t body ds ρ2
      | .ct ρ2 => loopR t body ds ρ2
      | .br ρ2 => .nx ρ2
      | .rt fl d ρ2 => .rt fl d ρ2
      | .ex x ρ2 => .ex x ρ2
      | .no => .no) := rfl
theorem fil_loop (S C : List Nat) : ∀ (L : List (Nat × Nat)) (p : Int) (x y : Sl), (∀ b ∈ L, hkOk S C b = true) → 0 < p → p.natAbs * 64 ^ L.length < 2 ^ 90 →
    ∃ x' y', loopR (.t [(.n 3), (.n 4)]) bodyF (L.map pD) [some (.fz, .tup (S.map iD)), some (.fz, .tup (C.map iD)), some (.fz, .int p), x, y] =
      .nx [some (.fz, .tup (S.map iD)), some (.fz, .tup (C.map iD)), some (.fz, .int (prodF S C L p)), x', y'] ∧ 0 < prodF S C L p ∧ (prodF S C L p).natAbs < 2 ^ 90 := by
  intro L
  induction L with
  | nil => intro p x y _ hp hb; exact ⟨x, y, rfl, hp, by simpa [prodF] using hb⟩
  | cons b L ih =>
    intro p x y hok hp hb
    have h1 := hok b (List.mem_cons_self ..)
    unfold hkOk at h1
    rw [Bool.and_eq_true, Bool.and_eq_true, Bool.and_eq_true, decide_eq_true_eq, decide_eq_true_eq, decide_eq_true_eq, decide_eq_true_eq] at h1
    obtain ⟨⟨⟨hk, hc⟩, hf0⟩, hf1⟩ := h1
    obtain ⟨k, c⟩ := b
    have hs : S[k]? = some (S.getD k 0) := by rw [List.getD_eq_getElem?_getD, List.getElem?_eq_getElem hk]; rfl
    have hcc : C[c]? = some (C.getD c 0) := by rw [List.getD_eq_getElem?_getD, List.getElem?_eq_getElem hc]; rfl
    have q1 := q_tup (at_nat hs)
    have q2 := q_tup (at_nat hcc)
    have hfb : (hkF S C (k, c)).natAbs ≤ 64 := by omega
    have hpow : 64 ^ (L.length + 1) = 64 ^ L.length * 64 := Nat.pow_succ ..
    rw [List.length_cons, hpow] at hb
    have hpos : 0 < 64 ^ L.length := Nat.pow_pos (by decide)
    have hb2 : (p * hkF S C (k, c)).natAbs * 64 ^ L.length < 2 ^ 90 := by
      rw [Int.natAbs_mul]
      refine Nat.lt_of_le_of_lt ?_ hb
      calc p.natAbs * (hkF S C (k, c)).natAbs * 64 ^ L.length ≤ p.natAbs * 64 * 64 ^ L.length := Nat.mul_le_mul_right _ (Nat.mul_le_mul_left _ hfb)
        _ = p.natAbs * (64 ^ L.length * 64) := by rw [Nat.mul_assoc, Nat.mul_comm 64]
    have hpb : p.natAbs < 2 ^ 100 := by
      have : p.natAbs * 1 ≤ p.natAbs * (64 ^ L.length * 64) := Nat.mul_le_mul_left _ (by omega)
      have h90 : (2 : Nat) ^ 90 ≤ 2 ^ 100 := by decide
      omega
    have hm : okMul p (hkF S C (k, c)) = true := okMul_of' hpb (Nat.lt_of_le_of_lt hfb (by decide))
    have hm' := i_mul hm
    have ea : asgR (.t [(.n 3), (.n 4)]) false (pD (k, c)) [some (.fz, .tup (S.map iD)), some (.fz, .tup (C.map iD)), some (.fz, .int p), x, y] = some [some (.fz, .tup (S.map iD)), some (.fz, .tup (C.map iD)), some (.fz, .int p), some (.fz, .int (k : Nat)), some (.fz, .int (c : Nat))] := rfl
    have eb : bodyF [some (.fz, .tup (S.map iD)), some (.fz, .tup (C.map iD)), some (.fz, .int p), some (.fz, .int (k : Nat)), some (.fz, .int (c : Nat))] = .nx [some (.fz, .tup (S.map iD)), some (.fz, .tup (C.map iD)), some (.fz, .int (p * hkF S C (k, c))), some (.fz, .int (k : Nat)), some (.fz, .int (c : Nat))] := by
      unfold hkF at hm' ⊢
      dsimp only at hm' ⊢
      simp only [bodyF, sAsgR, eP, p2, qP, qR, qC, gtR_eq, gt, q1, q2, i_sub, i_add, hm', asgR, setR_eq, List.set]
      rfl
    rw [List.map_cons, lp_cons, ea]
    dsimp only
    rw [eb]
    exact ih _ _ _ (fun b hb => hok b (List.mem_cons_of_mem _ hb)) (Int.mul_pos hp hf0) hb2
theorem ints_iD : ∀ (S : List Nat), intsOf (S.map iD) = some (S.map fun n => ((n : Nat) : Int))
  | [] => rfl
  | s :: S => by
    rw [List.map_cons]
    show (match intsOf (S.map iD) with | some l => some (((s : Nat) : Int) :: l) | none => none) = _
    rw [ints_iD S]; rfl
theorem sum_iD : ∀ (S : List Nat), (S.map fun n => ((n : Nat) : Int)).sum = ((S.sum : Nat) : Int)
  | [] => rfl
  | s :: S => by
    rw [List.map_cons, List.sum_cons, sum_iD S, List.sum_cons]; omega
theorem sumD (S : List Nat) : prSum [.tup (S.map iD)] = some (false, .int (S.sum : Nat)) := by
  show (match seqOf (.tup (S.map iD)) with
    | some ds => match intsOf ds with | some ns => some (false, D.int ns.sum) | none => none
    | none => none) = _
  rw [show seqOf (.tup (S.map iD)) = some (S.map iD) from rfl]
  dsimp only
  rw [ints_iD, ← sum_iD]
def filOk (S C : List Nat) : Bool := ((bxP 0 S).all fun b => hkOk S C b) && decide ((bxP 0 S).length ≤ 14) && decide (S.sum ≤ 20)
def filN (S C : List Nat) : Int := (fac S.sum : Nat) / prodF S C (bxP 0 S) 1
theorem fil_eq (S C : List Nat) (h : filOk S C = true) : m_filling_count_of [.tup (S.map iD), .tup (C.map iD)] = .ok false (.int (filN S C)) .non := by
  unfold filOk at h
  rw [Bool.and_eq_true, Bool.and_eq_true, decide_eq_true_eq, decide_eq_true_eq] at h
  obtain ⟨⟨h1, h2⟩, h3⟩ := h
  have hb : ∀ b ∈ bxP 0 S, hkOk S C b = true := fun b hb => List.all_eq_true.mp h1 b hb
  have hp : (1 : Int).natAbs * 64 ^ (bxP 0 S).length < 2 ^ 90 := by
    have : 64 ^ (bxP 0 S).length ≤ 64 ^ 14 := Nat.pow_le_pow_right (by decide) h2
    have e : (64 : Nat) ^ 14 < 2 ^ 90 := by decide
    show 1 * _ < _
    omega
  obtain ⟨x', y', hl, hp0, hpb⟩ := fil_loop S C (bxP 0 S) 1 none none hb (by decide) hp
  have hbx := boxes_eq S (by omega)
  rw [bx_eq] at hbx
  have hd := i_div (i := ((fac S.sum : Nat) : Int)) (okDiv_of' hp0 (Nat.lt_trans hpb (by decide)))
  have hf : prFac [.int (S.sum : Nat)] = some (false, .int ((fac S.sum : Nat) : Int)) := by
    unfold prFac
    dsimp only
    rw [if_pos ⟨by omega, by omega⟩, fac_eq, Int.toNat_natCast]
  have hbd : bodyF = (sAsgR (.n 2) (eP (p2 prMul (qR 2) (qP (p2 prSub (qP (p2 prSub (qP (p2 prAdd (qP (p2 prSub (qP (p2 prSubQ (qR 0) (qR 3))) (qR 4))) (qP (p2 prSubQ (qR 1) (qR 4))))) (qR 3))) (qC (.int 1))))))) := rfl
  unfold m_filling_count_of mF w_filling_count_of
  rw [← hbd]
  have hs := sumD S
  generalize bodyF = bod at *
  simp [startV, sSeq, sAsgR, eC, asgR, setR_eq, sForR, iSeq, fCall, evOs, evO, eVarR, nthR_eq, vals, hbx, seqOf, hl, sRet, eP, p1, p2, qP, qR, gtR_eq, gt, hs, hf, hd, finF, filN]
end
end Law_k14
/-! part Rf4 -/
set_option Elab.async false
set_option linter.all false
set_option maxRecDepth 100000
set_option maxHeartbeats 4000000
namespace Law_k14
open PySem L2 Pf
noncomputable section
/-- rows from 1 on, none longer than the one before -/
def Dec (S : List Nat) : Prop := ∀ (i s : Nat), S[i]? = some s → 1 ≤ s ∧ (0 < i → ∃ p, S[i - 1]? = some p ∧ s ≤ p)
abbrev bodyRd : SF := (sSeq (sIf (tOo (tNo (tTr (.e (fCall m_is_integer [(.e (eVarR 3))])))) (tPf (p2 prLt (qR 3) (qC (.int 1))))) sNo sNx)
    (sIf (tAn (tPf (p2 prGt (qR 2) (qC (.int 0)))) (tPf (p2 prGt (qR 3) (qP (p2 prSubQ (qR 1) (qP (p2 prSub (qR 2) (qC (.int 1))))))))) sNo sNx))
theorem rd_loop (S : List Nat) (A : Sl) (hS : Dec S) : ∀ (suf : List Nat) (k : Nat) (x y : Sl), (∀ i, suf[i]? = S[k + i]?) →
    ∃ x' y', loopR (.t [(.n 2), (.n 3)]) bodyRd (eN k suf) [A, some (.fz, .lst (S.map iD)), x, y] = .nx [A, some (.fz, .lst (S.map iD)), x', y'] := by
  intro suf
  induction suf with
  | nil => intro k x y _; exact ⟨x, y, rfl⟩
  | cons s suf ih =>
    intro k x y hsuf
    have hs : S[k]? = some s := by have := hsuf 0; simpa using this.symm
    obtain ⟨h1, h2⟩ := hS k s hs
    have ea : asgR (.t [(.n 2), (.n 3)]) false (.tup [.int (k : Nat), .int (s : Nat)]) [A, some (.fz, .lst (S.map iD)), x, y] = some [A, some (.fz, .lst (S.map iD)), some (.fz, .int (k : Nat)), some (.fz, .int (s : Nat))] := rfl
    have hi := isInt (s : Nat)
    have hlt : ¬ ((s : Nat) : Int) < 1 := by omega
    have eb : bodyRd [A, some (.fz, .lst (S.map iD)), some (.fz, .int (k : Nat)), some (.fz, .int (s : Nat))] = .nx [A, some (.fz, .lst (S.map iD)), some (.fz, .int (k : Nat)), some (.fz, .int (s : Nat))] := by
      by_cases hk : 0 < k
      · obtain ⟨p, hp, hsp⟩ := h2 hk
        have q := q_lst (at_nat hp)
        have e : ((k : Nat) : Int) - 1 = ((k - 1 : Nat) : Int) := by omega
        have hk' : (0 : Int) < (k : Nat) := by omega
        have hps : ¬ ((p : Nat) : Int) < (s : Nat) := by omega
        simp [bodyRd, sSeq, sIf, tOo, tNo, tTr, evO, fCall, evOs, vals, eVarR, nthR_eq, hi, Hd.get, truD, tPf, p2, qR, qC, qP, gtR_eq, gt, i_lt, hlt, sNx, tAn, i_gt, hk', i_sub, e, q, hps, hsp, hk]
      · have hk0 : k = 0 := by omega
        subst hk0
        simp [bodyRd, sSeq, sIf, tOo, tNo, tTr, evO, fCall, evOs, vals, eVarR, nthR_eq, hi, Hd.get, truD, tPf, p2, qR, qC, qP, gtR_eq, gt, i_lt, hlt, sNx, tAn, i_gt]
    show ∃ x' y', loopR (.t [(.n 2), (.n 3)]) bodyRd (.tup [.int (k : Nat), .int (s : Nat)] :: eN (k + 1) suf) [A, some (.fz, .lst (S.map iD)), x, y] = _
    rw [lp_cons, ea]
    dsimp only
    rw [eb]
    exact ih (k + 1) _ _ fun i => by
      have := hsuf (i + 1)
      rw [List.getElem?_cons_succ] at this
      rw [this]; congr 1; omega
theorem is_lst_lst (X : List D) (ρ : Ve) (i : Nat) (h : gt ρ i = some (.lst X)) : True := trivial
theorem read_lst (S : List Nat) (hS : Dec S) : m_read_numbers [.lst (S.map iD)] = .ok false (.tup (S.map iD)) .non := by
  obtain ⟨x', y', hl⟩ := rd_loop S (some (.fz, .lst (S.map iD))) hS S 0 none none (fun i => by rw [Nat.zero_add])
  have hF : iEnu2 (eVarR 1) [some (.fz, .lst (S.map iD)), some (.ow, .lst (S.map iD)), none, none] = .ok (eN 0 S) [some (.fz, .lst (S.map iD)), some (.fz, .lst (S.map iD)), none, none] := by
    simp [iEnu2, eVarR, nthR_eq, seqOf, enumD_eq, setR_eq]
  have i1 : ∀ (X : List D) (r : Ve), fIs isa [.b "str"] (.v 0) (some (.fz, .lst X) :: r) = .ok false (.bl false) (some (.fz, .lst X) :: r) := fun X r => by kernel_rfl
  have i2 : ∀ (X : List D) (r : Ve), fIs isa [.b "list", .b "tuple"] (.v 0) (some (.fz, .lst X) :: r) = .ok false (.bl true) (some (.fz, .lst X) :: r) := fun X r => by kernel_rfl
  unfold m_read_numbers mF w_read_numbers
  generalize S.map iD = T at *
  have hb : bodyRd = (sSeq (sIf (tOo (tNo (tTr (.e (fCall m_is_integer [(.e (eVarR 3))])))) (tPf (p2 prLt (qR 3) (qC (.int 1))))) sNo sNx)
    (sIf (tAn (tPf (p2 prGt (qR 2) (qC (.int 0)))) (tPf (p2 prGt (qR 3) (qP (p2 prSubQ (qR 1) (qP (p2 prSub (qR 2) (qC (.int 1))))))))) sNo sNx)) := rfl
  rw [← hb]
  generalize bodyRd = bod at *
  simp [startV, sSeq, sIf, tTr, evO, i1, i2, Hd.get, truD, sAsgR, eP, p1, qR, gtR_eq, gt, prList, seqOf, asgR, setR_eq, sForR, hF, hl, sRet, prTuple, finF]
end
end Law_k14
/-! part Rf5 -/
set_option Elab.async false
set_option linter.all false
set_option maxRecDepth 100000
set_option maxHeartbeats 4000000
namespace Law_k14
open PySem L2 Pf
noncomputable section
def tup (S : List Nat) : D := .tup (S.map iD)
def told (S : List Nat) : D := .ins 0 [tup S, .int (S.sum : Nat), tup (conj S), .int (filN S (conj S))]
/-- a shape's rows that the package takes -/
structure Good (S : List Nat) : Prop where
  dec : Dec S
  sum : S.sum ≤ 12
  len : S.length ≤ 12
  mem : ∀ s ∈ S, s ≤ 12
  fil : filOk S (conj S) = true
theorem Good.cols {S : List Nat} (g : Good S) : m_columns_of [tup S] = .ok false (tup (conj S)) .non := columns_eq S (by have := g.len; omega) fun s hs => by have := g.mem s hs; omega
theorem read_str (S : List Nat) (t : Str) (hS : Dec S) (h : m_integers_in [.str t] = .ok true (.lst (S.map iD)) .non) : m_read_numbers [.str t] = .ok false (tup S) .non := by
  obtain ⟨x', y', hl⟩ := rd_loop S (some (.fz, .str t)) hS S 0 none none (fun i => by rw [Nat.zero_add])
  have hF : iEnu2 (eVarR 1) [some (.fz, .str t), some (.ow, .lst (S.map iD)), none, none] = .ok (eN 0 S) [some (.fz, .str t), some (.fz, .lst (S.map iD)), none, none] := by
    simp [iEnu2, eVarR, nthR_eq, seqOf, enumD_eq, setR_eq]
  have i1 : ∀ (r : Ve), fIs isa [.b "str"] (.v 0) (some (.fz, .str t) :: r) = .ok false (.bl true) (some (.fz, .str t) :: r) := fun r => by kernel_rfl
  unfold m_read_numbers mF w_read_numbers tup
  generalize S.map iD = T at *
  have hb : bodyRd = (sSeq (sIf (tOo (tNo (tTr (.e (fCall m_is_integer [(.e (eVarR 3))])))) (tPf (p2 prLt (qR 3) (qC (.int 1))))) sNo sNx)
    (sIf (tAn (tPf (p2 prGt (qR 2) (qC (.int 0)))) (tPf (p2 prGt (qR 3) (qP (p2 prSubQ (qR 1) (qP (p2 prSub (qR 2) (qC (.int 1))))))))) sNo sNx)) := rfl
  rw [← hb]
  generalize bodyRd = bod at *
  simp [startV, sSeq, sIf, tTr, evO, i1, Hd.get, truD, sAsgR, eP, p1, qR, gtR_eq, gt, fCall, evOs, vals, eVarR, nthR_eq, h, asgR, setR_eq, sForR, hF, hl, sRet, prTuple, finF]
theorem fld0 {a : D} {l : List D} : prFld [(0, 0)] [.ins 0 (a :: l)] = some (false, a) := rfl
theorem fld1 {a b : D} {l : List D} : prFld [(0, 1)] [.ins 0 (a :: b :: l)] = some (false, b) := rfl
theorem fld2 {a b c : D} {l : List D} : prFld [(0, 2)] [.ins 0 (a :: b :: c :: l)] = some (false, c) := rfl
theorem fld3 {a b c d : D} {l : List D} : prFld [(0, 3)] [.ins 0 (a :: b :: c :: d :: l)] = some (false, d) := rfl
abbrev restI : SF := (sSeq (sFldS [(0, 1)] 0 (eP (p1 prSum (qP (p1 (prFld [(0, 0)]) (qR 0))))))
    (sSeq (sIf (tPf (p2 prGt (qP (p1 (prFld [(0, 1)]) (qR 0))) (qC (.int 12)))) sNo sNx)
    (sSeq (sFldS [(0, 2)] 0 (fCall m_columns_of [(.e (eP (p1 (prFld [(0, 0)]) (qR 0))))]))
    (sFldS [(0, 3)] 0 (fCall m_filling_count_of [(.e (eP (p1 (prFld [(0, 0)]) (qR 0)))), (.e (eP (p1 (prFld [(0, 2)]) (qR 0))))])))))
theorem rest_ok {S : List Nat} (g : Good S) (X : Sl) : restI [some (.bo, .ins 0 [tup S]), X] = .nx [some (.bo, told S), X] := by
  have h1 := g.cols
  have h2 := fil_eq S (conj S) g.fil
  have h3 := sumD S
  have h4 : ¬ (12 : Int) < (S.sum : Nat) := by have := g.sum; omega
  unfold told
  have e2 : m_filling_count_of [tup S, tup (conj S)] = .ok false (.int (filN S (conj S))) .non := h2
  have e3 : prSum [tup S] = some (false, .int (S.sum : Nat)) := h3
  generalize tup S = T at *
  generalize tup (conj S) = T' at *
  simp [restI, sSeq, sFldS, eP, p1, p2, qP, qR, qC, gtR_eq, gt, fld0, fld1, fld2, fld3, e3, List.lookup, putI, sIf, tPf, i_gt, h4, sNx, fCall, evOs, evO, vals, h1, e2]
theorem init_read {S : List Nat} (g : Good S) (X : D) (hi : fIs isa [.o 0] (.v 1) [some (.bo, .ins 0 []), some (.fz, X)] = .ok false (.bl false) [some (.bo, .ins 0 []), some (.fz, X)]) (h : m_read_numbers [X] = .ok false (tup S) .non) :
    m_Shape_init [.ins 0 [], X] = .ok false .non (told S) := by
  have hr := rest_ok g (some (.fz, X))

  have hd : w_Shape_init = (sSeq (sIf (tTr (.e (fIs isa [.o 0] (.v 1)))) (sFldS [(0, 0)] 0 (eP (p1 (prFld [(0, 0)]) (qR 1)))) (sFldS [(0, 0)] 0 (fCall m_read_numbers [(.e (eVarR 1))]))) restI) := rfl
  unfold m_Shape_init mI
  rw [hd]
  generalize restI = rI at *
  simp [startI, startV, sSeq, sIf, tTr, evO, hi, Hd.get, truD, sFldS, fCall, evOs, vals, eVarR, nthR_eq, h, List.lookup, putI, hr, finI, out0]
theorem init_ins {S : List Nat} (g : Good S) (l : List D) : m_Shape_init [.ins 0 [], .ins 0 (tup S :: l)] = .ok false .non (told S) := by
  have hr := rest_ok g (some (.fz, .ins 0 (tup S :: l)))
  have hi : fIs isa [.o 0] (.v 1) [some (.bo, .ins 0 []), some (.fz, .ins 0 (tup S :: l))] = .ok false (.bl true) [some (.bo, .ins 0 []), some (.fz, .ins 0 (tup S :: l))] := by kernel_rfl
  have hd : w_Shape_init = (sSeq (sIf (tTr (.e (fIs isa [.o 0] (.v 1)))) (sFldS [(0, 0)] 0 (eP (p1 (prFld [(0, 0)]) (qR 1)))) (sFldS [(0, 0)] 0 (fCall m_read_numbers [(.e (eVarR 1))]))) restI) := rfl
  unfold m_Shape_init mI
  rw [hd]
  generalize restI = rI at *
  simp [startI, startV, sSeq, sIf, tTr, evO, hi, Hd.get, truD, sFldS, eP, p1, qR, gtR_eq, gt, fld0, List.lookup, putI, hr, finI, out0]
theorem init_lst {S : List Nat} (g : Good S) : m_Shape_init [.ins 0 [], .lst (S.map iD)] = .ok false .non (told S) := init_read g _ (by kernel_rfl) (read_lst S g.dec)
theorem init_str {S : List Nat} (g : Good S) (t : Str) (h : m_integers_in [.str t] = .ok true (.lst (S.map iD)) .non) : m_Shape_init [.ins 0 [], .str t] = .ok false .non (told S) := init_read g _ (by kernel_rfl) (read_str S t g.dec h)
end
end Law_k14
/-! part Rf9 -/
set_option Elab.async false
set_option linter.all false
set_option maxRecDepth 100000
set_option maxHeartbeats 4000000
namespace Law_k14
open PySem L2 Pf
noncomputable section
section
variable (a : Sl) (r : Ve) (i : Int) (z : Str) (b : Bool) (X : List D)
theorem ii_bool1 : fIs isa [.b "bool"] (.v 1) (a :: some (.fz, .int i) :: r) = .ok false (.bl false) (a :: some (.fz, .int i) :: r) := by kernel_rfl
theorem ii_int1 : fIs isa [.b "int"] (.v 1) (a :: some (.fz, .int i) :: r) = .ok false (.bl true) (a :: some (.fz, .int i) :: r) := by kernel_rfl
theorem ii_int0 : fIs isa [.b "int"] (.v 0) (some (.fz, .int i) :: r) = .ok false (.bl true) (some (.fz, .int i) :: r) := by kernel_rfl
theorem ii_bool0 : fIs isa [.b "bool"] (.v 0) (some (.fz, .int i) :: r) = .ok false (.bl false) (some (.fz, .int i) :: r) := by kernel_rfl
theorem is_bool1 : fIs isa [.b "bool"] (.v 1) (a :: some (.fz, .str z) :: r) = .ok false (.bl false) (a :: some (.fz, .str z) :: r) := by kernel_rfl
theorem is_int1 : fIs isa [.b "int"] (.v 1) (a :: some (.fz, .str z) :: r) = .ok false (.bl false) (a :: some (.fz, .str z) :: r) := by kernel_rfl
theorem is_str1 : fIs isa [.b "str"] (.v 1) (a :: some (.fz, .str z) :: r) = .ok false (.bl true) (a :: some (.fz, .str z) :: r) := by kernel_rfl
theorem is_str0 : fIs isa [.b "str"] (.v 0) (some (.fz, .str z) :: r) = .ok false (.bl true) (some (.fz, .str z) :: r) := by kernel_rfl
theorem it_bool1 : fIs isa [.b "bool"] (.v 1) (a :: some (.fz, .tup X) :: r) = .ok false (.bl false) (a :: some (.fz, .tup X) :: r) := by kernel_rfl
theorem it_int1 : fIs isa [.b "int"] (.v 1) (a :: some (.fz, .tup X) :: r) = .ok false (.bl false) (a :: some (.fz, .tup X) :: r) := by kernel_rfl
theorem it_str1 : fIs isa [.b "str"] (.v 1) (a :: some (.fz, .tup X) :: r) = .ok false (.bl false) (a :: some (.fz, .tup X) :: r) := by kernel_rfl
theorem it_list1 : fIs isa [.b "list"] (.v 1) (a :: some (.fz, .tup X) :: r) = .ok false (.bl false) (a :: some (.fz, .tup X) :: r) := by kernel_rfl
theorem it_tup1 : fIs isa [.b "tuple"] (.v 1) (a :: some (.fz, .tup X) :: r) = .ok false (.bl true) (a :: some (.fz, .tup X) :: r) := by kernel_rfl
theorem it_list0 : fIs isa [.b "list"] (.v 0) (some (.fz, .tup X) :: r) = .ok false (.bl false) (some (.fz, .tup X) :: r) := by kernel_rfl
theorem it_tup0 : fIs isa [.b "tuple"] (.v 0) (some (.fz, .tup X) :: r) = .ok false (.bl true) (some (.fz, .tup X) :: r) := by kernel_rfl
end
theorem like_int (n : Nat) (i j : Int) : m_law_like (n + 1) [.int i, .int j] = .ok false (.bl (decide (i = j))) .non := by
  unfold m_law_like mF w_law_like
  simp [startV, sSeq, sIf, tTr, evO, ii_bool1, ii_int1, ii_int0, ii_bool0, Hd.get, truD, sNx, sRet, fAndV, fNotV, eP, p2, qR, gtR_eq, gt, i_eq, finF]
theorem like_true (n : Nat) : m_law_like (n + 1) [.bl true, .bl true] = .ok false (.bl true) .non := by kernel_rfl
theorem eq_str (z : Str) (h : SeqAt.shaped (.str z) = true) : prEq [.str z, .str z] = some (false, .bl true) := by
  show (match eqD (.str z) (.str z) with | some r => some (false, D.bl r) | none => none) = _
  have e : eqD (.str z) (.str z) = some true := by
    show eqSlow (.str z) (.str z) = some true
    unfold eqSlow
    show (if SeqAt.shaped (.str z) = true ∧ SeqAt.shaped (.str z) = true then some (PyData.eqv (.str z) (.str z)) else none) = _
    rw [if_pos ⟨h, h⟩]
    simp [PyData.eqv]
  rw [e]
theorem like_str (n : Nat) (z : Str) (h : SeqAt.shaped (.str z) = true) : m_law_like (n + 1) [.str z, .str z] = .ok false (.bl true) .non := by
  have e := eq_str z h
  unfold m_law_like mF w_law_like
  simp [startV, sSeq, sIf, tTr, evO, is_bool1, is_int1, is_str1, is_str0, Hd.get, truD, sNx, sRet, fAndV, eP, p2, qR, gtR_eq, gt, e, finF]
theorem like_loop (n : Nat) (S : List Nat) : ∀ (cs : List Nat) (x : Sl), (∀ c ∈ cs, c < S.length) → ∃ x', loopR (.n 2) (sIf (tNo (tTr (.e (fCall (m_law_like (n + 1)) [(.e (eP (p2 prSubQ (qR 0) (qR 2)))), (.e (eP (p2 prSubQ (qR 1) (qR 2))))])))) (sRet (eC (.bl false))) sNx) (cs.map iD) [some (.fz, tup S), some (.fz, tup S), x] =
    .nx [some (.fz, tup S), some (.fz, tup S), x'] := by
  intro cs
  induction cs with
  | nil => intro x _; exact ⟨x, rfl⟩
  | cons c cs ih =>
    intro x hc
    have hcl := hc c (List.mem_cons_self ..)
    have hs : S[c]? = some S[c] := List.getElem?_eq_getElem hcl
    have q := q_tup (at_nat hs)
    have q' : prSubQ [tup S, .int (c : Nat)] = some (false, .int (S[c] : Nat)) := q
    have hk := like_int n (S[c] : Nat) (S[c] : Nat)
    rw [List.map_cons, lp_cons]
    obtain ⟨x', hx⟩ := ih (some (.fz, .int (c : Nat))) fun d hd => hc d (List.mem_cons_of_mem _ hd)
    refine ⟨x', ?_⟩
    rw [← hx]
    generalize tup S = U at *
    simp [asgR, setR_eq, iD, sIf, tNo, tTr, evO, fCall, evOs, vals, eP, p2, qR, gtR_eq, gt, q', hk, Hd.get, truD, sNx]
theorem like_tup (n : Nat) (S : List Nat) (hl : S.length ≤ 1000) : m_law_like (n + 2) [tup S, tup S] = .ok false (.bl true) .non := by
  obtain ⟨x', hL⟩ := like_loop n S (List.range S.length) none fun c hc => List.mem_range.mp hc
  have hln : prLenQ [tup S] = some (false, .int (S.length : Nat)) := by unfold tup; rw [l_tup, List.length_map]
  have hr := iRng_nat (o := .e (eP (p1 prLenQ (qR 1)))) (ρ := [some (.fz, tup S), some (.fz, tup S), none]) (h := .val (.int (S.length : Nat))) (ρ1 := [some (.fz, tup S), some (.fz, tup S), none]) (n := S.length) (by simp [evO, eP, p1, qR, gtR_eq, gt, hln]) rfl (by omega)
  have e1 : ∀ a b : Bool, prNe [.bl a, .bl b] = some (false, .bl (!(a == b))) := fun a b => by cases a <;> cases b <;> kernel_rfl
  have ht : tup S = .tup (S.map iD) := rfl
  show mF 3 (w_law_like (m_law_like (n + 1))) [tup S, tup S] = _
  unfold mF w_law_like
  rw [ht] at hL hr hln ⊢
  generalize S.map iD = T at *
  generalize (sIf (tNo (tTr (.e (fCall (m_law_like (n + 1)) [(.e (eP (p2 prSubQ (qR 0) (qR 2)))), (.e (eP (p2 prSubQ (qR 1) (qR 2))))])))) (sRet (eC (.bl false))) sNx) = bod at *
  simp [startV, sSeq, sIf, tTr, tOo, tTv, fPrim, evOs, evO, getAll, it_bool1, it_int1, it_str1, it_list1, it_tup1, it_list0, it_tup0, Hd.get, truD, sNx, e1, tPf, p2, p1, qP, qR, gtR_eq, gt, hln, i_ne, sForR, hr, hL, sRet, eC, finF]
end
end Law_k14
/-! part Tr -/
set_option Elab.async false
set_option linter.all false
set_option maxRecDepth 100000
set_option maxHeartbeats 4000000
/-! Tr: trace_of of k14 is N14.back -/
namespace N14
open PySem L2 Pf
noncomputable section
theorem beqL_iff : ∀ l m : List Nat, beqL l m = decide (l = m)
  | [], [] => rfl
  | [], _ :: _ => rfl
  | _ :: _, [] => rfl
  | a :: l, b :: m => by
    have ih := beqL_iff l m
    show (bif Nat.beq a b then beqL l m else false) = _
    rw [ih]
    by_cases h : a = b
    · subst h; simp
    · have : Nat.beq a b = false := by cases e : Nat.beq a b with
        | false => rfl
        | true => exact absurd (Nat.eq_of_beq_eq_true e) h
      rw [this]; simp [h]
theorem addK_eq (k : List Nat) (v : Int) : ∀ d : Dc, addK k v d = addN k v d
  | [] => rfl
  | kv :: d => by
    show (bif beqL kv.1 k then (kv.1, kv.2 + v) :: d else kv :: addK k v d) = _
    rw [beqL_iff, addK_eq k v d, show addN k v (kv :: d) = (if kv.1 = k then (kv.1, kv.2 + v) :: d else kv :: addN k v d) from rfl]
    by_cases h : kv.1 = k <;> simp [h]
theorem lookD_eq (k : List Nat) : ∀ d : Dc, lookD k d = lookN k d
  | [] => rfl
  | kv :: d => by
    show (bif beqL kv.1 k then kv.2 else lookD k d) = _
    rw [beqL_iff, lookD_eq k d]
    unfold lookN
    rw [List.find?_cons]
    by_cases h : kv.1 = k <;> simp [h]
theorem cnt_eq (a b : Nat) : ∀ l : List Nat, (l.filter fun o => decide (a < o) && decide (o < b)).length = cnt a b l
  | [] => rfl
  | x :: l => by
    have ih := cnt_eq a b l
    show _ = (bif Nat.blt a x && Nat.blt x b then Nat.succ (cnt a b l) else cnt a b l)
    rw [List.filter_cons]
    have e1 : Nat.blt a x = decide (a < x) := by
      by_cases h : a < x
      · rw [decide_eq_true h]; exact Nat.ble_eq.mpr h
      · rw [decide_eq_false h]; cases e : Nat.blt a x with
        | false => rfl
        | true => exact absurd (Nat.ble_eq.mp e) h
    have e2 : Nat.blt x b = decide (x < b) := by
      by_cases h : x < b
      · rw [decide_eq_true h]; exact Nat.ble_eq.mpr h
      · rw [decide_eq_false h]; cases e : Nat.blt x b with
        | false => rfl
        | true => exact absurd (Nat.ble_eq.mp e) h
    rw [e1, e2, ← ih]
    by_cases h : (decide (a < x) && decide (x < b)) = true
    · simp [h]
    · rw [if_neg h]; rw [Bool.not_eq_true] at h; rw [h]; rfl
theorem mem_eq (x : Nat) : ∀ l : List Nat, mem x l = l.any fun n => decide (((n : Nat) : Int) = (x : Nat))
  | [] => rfl
  | y :: l => by
    have ih := mem_eq x l
    show (bif Nat.beq x y then true else mem x l) = _
    rw [List.any_cons, ← ih]
    by_cases h : x = y
    · subst h; simp
    · have e : Nat.beq x y = false := by cases e : Nat.beq x y with
        | false => rfl
        | true => exact absurd (Nat.eq_of_beq_eq_true e) h
      have h2 : ¬ ((y : Nat) : Int) = (x : Nat) := fun e => h (by omega)
      rw [e, decide_eq_false h2]; rfl
def en : Nat → List Nat → List (Nat × Nat)
  | _, [] => []
  | k, x :: l => (k, x) :: en (k + 1) l
theorem stepB_fold (p : Nat) (g : List Nat) (v : Int) : ∀ (l : List Nat) (a : Nat) (acc : Dc), stepB p g v a l acc = (en a l).foldl (fun acc b => bif Nat.ble p b.2 && !(mem (b.2 - p) g) then addK (leftN g b.1 (cnt (b.2 - p) b.2 g) (b.2 - p)) (sg (cnt (b.2 - p) b.2 g) v) acc else acc) acc
  | [], _, _ => rfl
  | x :: l, a, acc => by
    show stepB p g v (a + 1) l _ = _
    rw [stepB_fold p g v l]; rfl
end
end N14
namespace Law_k14
open PySem L2 Pf N14
noncomputable section
theorem eN_en : ∀ (l : List Nat) (k : Nat), eN k l = (en k l).map pD
  | [], _ => rfl
  | x :: l, k => by unfold eN en; rw [eN_en l (k + 1)]; rfl
theorem en_at : ∀ (l : List Nat) (k i : Nat) (b : Nat × Nat), (en k l)[i]? = some b → b.1 = k + i ∧ l[i]? = some b.2
  | [], k, i, b, h => by unfold en at h; simp at h
  | x :: l, k, 0, b, h => by unfold en at h; simp at h; subst h; exact ⟨rfl, rfl⟩
  | x :: l, k, i + 1, b, h => by
    unfold en at h
    rw [List.getElem?_cons_succ] at h
    obtain ⟨h1, h2⟩ := en_at l (k + 1) i b h
    exact ⟨by omega, by rw [List.getElem?_cons_succ]; exact h2⟩
theorem nin_tup (x : Nat) (g : List Nat) : prNin [.int (x : Nat), .tup (g.map nD)] = some (false, .bl (!(mem x g))) := by
  have hall : ((g.map nD).all flatD) = true := by rw [List.all_map]; exact List.all_eq_true.mpr fun _ _ => rfl
  have e : prInT true [.int (x : Nat), .tup (g.map nD)] = some (false, .bl (!(mem x g))) := by
    unfold prInT
    dsimp only
    rw [if_pos ⟨rfl, hall⟩]
    have : cVd (.int (x : Nat)) = V.int (x : Nat) := rfl
    rw [this, inV_nat, mem_eq]
    rfl
  unfold prNin prOr prInL
  dsimp only
  rw [e]
theorem comp13 (A0 A1 A2 A3 A4 A6 A7 A10 A11 A12 : Sl) (x lo : Nat) (g : List Nat) (hg : g.length ≤ 1000) :
    fLcR [13] (iSeq (eVarR 5)) (.n 13) (tTv (fChain (fun i j => decide (i < j)) (fun i j => decide (i < j)) (.v 9) (.v 13) (.v 8))) (eVarR 13) [A0, A1, A2, A3, A4, some (.fz, .tup (g.map nD)), A6, A7, some (.fz, .int (x : Nat)), some (.fz, .int (lo : Nat)), A10, A11, A12, none] =
      .ok true (.lst ((g.filter fun o => decide (lo < o) && decide (o < x)).map nD)) [A0, A1, A2, A3, A4, some (.fz, .tup (g.map nD)), A6, A7, some (.fz, .int (x : Nat)), some (.fz, .int (lo : Nat)), A10, A11, A12, none] := by
  refine fLcR_same nD (fun o => decide (lo < o) && decide (o < x)) nD (xs := g) (F := iSeq (eVarR 5)) rfl rfl (by omega) rfl rfl fun o _ => ⟨_, rfl, ?_, fun _ => ⟨false, rfl⟩, rfl⟩
  generalize g.map nD = T
  by_cases h : lo < o <;> simp [tTv, fChain, evO, Hd.get, nD, h, setR_eq, wipeR]
abbrev bodyB : SF := (sSeq (sAsgR (.n 9) (eP (p2 prSub (qR 8) (qR 3))))
    (sIf (tAn (tPf (p2 prGe (qR 9) (qC (.int 0)))) (tPf (p2 prNin (qR 9) (qR 5)))) (sSeq (sAsgR (.n 10) (fPrim prLenQ [(.e (fLcR [13] (iSeq (eVarR 5)) (.n 13) (tTv (fChain (fun i j => decide (i < j)) (fun i j => decide (i < j)) (.v 9) (.v 13) (.v 8))) (eVarR 13)))]))
    (sSeq (sAsgR (.n 11) (fPrim prAdd [(.e (fPrim prAdd [(.e (fPrim prAdd [(.e (fSl (.v 5) none (some (.v 7)))), (.e (fSl (.v 5) (some (.e (eP (p2 prAdd (qR 7) (qC (.int 1)))))) (some (.e (eP (p2 prAdd (qP (p2 prAdd (qR 7) (qC (.int 1)))) (qR 10)))))))])), (.e (fPrimV prTup [(.e (eVarR 9))]))])), (.e (fSl (.v 5) (some (.e (eP (p2 prAdd (qP (p2 prAdd (qR 7) (qC (.int 1)))) (qR 10))))) none))]))
    (sSeq (sAsgR (.n 12) (fIf (tPf (p2 prEq (qP (p2 prMod (qR 10) (qC (.int 2)))) (qC (.int 0)))) (eVarR 6) (eP (p1 prNeg (qR 6)))))
    (sSet 4 (.v 11) (fPrim prAdd [(.e (fGet (.v 4) (.v 11) (eC (.int 0)))), (.v 12)]))))) sNx))
theorem t_add {a b : List D} (h : a.length + b.length ≤ 100000) : prAdd [.tup a, .tup b] = some (false, .tup (a ++ b)) := by unfold prAdd; simp [h]
theorem bodyB_skip (A0 A1 A2 A4 A6 A7 A9 A10 A11 A12 : Sl) (p x : Nat) (g : List Nat) (h : (Nat.ble p x && !(mem (x - p) g)) = false) : ∃ y,
    bodyB [A0, A1, A2, some (.fz, .int (p : Nat)), A4, some (.fz, .tup (g.map nD)), A6, A7, some (.fz, .int (x : Nat)), A9, A10, A11, A12, none] =
      .nx [A0, A1, A2, some (.fz, .int (p : Nat)), A4, some (.fz, .tup (g.map nD)), A6, A7, some (.fz, .int (x : Nat)), y, A10, A11, A12, none] := by
  by_cases hp : p ≤ x
  · have e : ((x : Nat) : Int) - (p : Nat) = ((x - p : Nat) : Int) := by omega
    have hm : mem (x - p) g = true := by
      rw [Nat.ble_eq.mpr hp] at h
      simpa using h
    have hn := nin_tup (x - p) g
    rw [hm] at hn
    generalize g.map nD = T at *
    refine ⟨some (.fz, .int ((x - p : Nat) : Int)), ?_⟩
    have hz : (0 : Int) ≤ ((x - p : Nat) : Int) := by omega
    generalize ((x - p : Nat) : Int) = lo at *
    simp [bodyB, sSeq, sAsgR, sIf, sSet, sRet, sNx, sDrop, evO, evOs, vals, getAll, Hd.get, eP, eC, p1, p2, qP, qR, qC, gtR_eq, gt, nthR_eq, setR_eq, eVarR, asgR, tPf, tAn, tOo, tNo, tTr, tTv, truD, fIf, fPrim, fPrimV, fSl, evP, slD, restR, wipeR, fCall, fCallI, fMake, fAndV, fNotV, i_lt, i_le, i_gt, i_ge, i_add, i_sub, i_eq, i_ne, e, hn, hz]
  · have hz : ¬ (0 : Int) ≤ ((x : Nat) : Int) - (p : Nat) := by omega
    generalize g.map nD = T at *
    refine ⟨some (.fz, .int (((x : Nat) : Int) - (p : Nat))), ?_⟩
    have hz' : ¬ (p : Int) ≤ x := by omega
    generalize hlo : ((x : Nat) : Int) - (p : Nat) = lo at *
    simp [bodyB, sSeq, sAsgR, sIf, sSet, sRet, sNx, sDrop, evO, evOs, vals, getAll, Hd.get, eP, eC, p1, p2, qP, qR, qC, gtR_eq, gt, nthR_eq, setR_eq, eVarR, asgR, tPf, tAn, tOo, tNo, tTr, tTv, truD, fIf, fPrim, fPrimV, fSl, evP, slD, restR, wipeR, fCall, fCallI, fMake, fAndV, fNotV, i_lt, i_le, i_gt, i_ge, i_add, i_sub, i_eq, i_ne, hz, hz', hp, hlo]
theorem bodyB_put (A0 A1 A2 A9 A10 A11 A12 : Sl) (p a x : Nat) (v : Int) (g : List Nat) (acc : Dc) (h : (Nat.ble p x && !(mem (x - p) g)) = true) (hg : g.length ≤ 1000) (hn : (keysN acc).Nodup) (hl : acc.length < 100000) : ∃ y9 y10 y11 y12,
    bodyB [A0, A1, A2, some (.fz, .int (p : Nat)), some (.ow, dcD acc), some (.fz, .tup (g.map nD)), some (.fz, .int v), some (.fz, .int (a : Nat)), some (.fz, .int (x : Nat)), A9, A10, A11, A12, none] =
      .nx [A0, A1, A2, some (.fz, .int (p : Nat)), some (.ow, dcD (addN (leftN g a (cnt (x - p) x g) (x - p)) (sg (cnt (x - p) x g) v) acc)), some (.fz, .tup (g.map nD)), some (.fz, .int v), some (.fz, .int (a : Nat)), some (.fz, .int (x : Nat)), y9, y10, y11, y12, none] := by
  rw [Bool.and_eq_true] at h
  have hp : p ≤ x := Nat.ble_eq.mp h.1
  have e : ((x : Nat) : Int) - (p : Nat) = ((x - p : Nat) : Int) := by omega
  have hm : mem (x - p) g = false := by simpa using h.2
  have hnn := nin_tup (x - p) g
  rw [hm] at hnn
  have hz : (0 : Int) ≤ ((x - p : Nat) : Int) := by omega
  have hc := comp13 A0 A1 A2 (some (.fz, .int (p : Nat))) (some (.ow, dcD acc)) (some (.fz, .int v)) (some (.fz, .int (a : Nat))) A10 A11 A12 x (x - p) g hg
  have hlen : prLenQ [.lst ((g.filter fun o => decide (x - p < o) && decide (o < x)).map nD)] = some (false, .int ((cnt (x - p) x g : Nat) : Int)) := by rw [l_lst, List.length_map, cnt_eq]
  generalize (g.filter fun o => decide (x - p < o) && decide (o < x)).map nD = F at *
  have s1 : cutA (g.map nD) none (some ((a : Nat) : Int)) = (g.take a).map nD := by rw [cut_to, List.map_take]
  have s2 : cutA (g.map nD) (some ((a : Int) + 1)) (some ((a : Int) + 1 + ((cnt (x - p) x g : Nat) : Int))) = ((g.drop (a + 1)).take (cnt (x - p) x g)).map nD := by
    have := cut_mid (g.map nD) (a + 1) (cnt (x - p) x g)
    rw [List.map_take, List.map_drop, ← this]; congr 1
  have s3 : cutA (g.map nD) (some ((a : Int) + 1 + ((cnt (x - p) x g : Nat) : Int))) none = (g.drop (a + 1 + cnt (x - p) x g)).map nD := by
    have := cut_from (g.map nD) (a + 1 + cnt (x - p) x g)
    rw [List.map_drop, ← this]; congr 1
  have t1 : prAdd [.tup ((g.take a).map nD), .tup (((g.drop (a + 1)).take (cnt (x - p) x g)).map nD)] = some (false, .tup ((g.take a).map nD ++ ((g.drop (a + 1)).take (cnt (x - p) x g)).map nD)) := t_add (by simp; omega)
  have t2 : prAdd [.tup ((g.take a).map nD ++ ((g.drop (a + 1)).take (cnt (x - p) x g)).map nD), .tup [.int ((x - p : Nat) : Int)]] = some (false, .tup (((g.take a).map nD ++ ((g.drop (a + 1)).take (cnt (x - p) x g)).map nD) ++ [.int ((x - p : Nat) : Int)])) := t_add (by simp; omega)
  have t3 : prAdd [.tup (((g.take a).map nD ++ ((g.drop (a + 1)).take (cnt (x - p) x g)).map nD) ++ [.int ((x - p : Nat) : Int)]), .tup ((g.drop (a + 1 + cnt (x - p) x g)).map nD)] = some (false, .tup ((leftN g a (cnt (x - p) x g) (x - p)).map nD)) := by
    rw [t_add (by simp; omega)]
    unfold leftN
    simp [nD]
  have hmod : prMod [.int ((cnt (x - p) x g : Nat) : Int), .int 2] = some (false, .int (((cnt (x - p) x g : Nat) : Int) % 2)) := i_mod (by decide)
  have hng : prNeg [.int v] = some (false, .int (-v)) := rfl
  have hsg : (if ((cnt (x - p) x g : Nat) : Int) % 2 = 0 then v else -v) = sg (cnt (x - p) x g) v := by
    unfold sg
    by_cases h2 : cnt (x - p) x g % 2 = 0
    · rw [if_pos (by omega), h2]; rfl
    · have : cnt (x - p) x g % 2 = 1 := by omega
      rw [if_neg (by omega), this]; rfl
  obtain ⟨o, ho, hog⟩ := dLook_nat acc (leftN g a (cnt (x - p) x g) (x - p))
  have hset := muSet_nat (k := leftN g a (cnt (x - p) x g) (x - p)) (v := sg (cnt (x - p) x g) v) hn hl
  have htup : prTup [.int ((x - p : Nat) : Int)] = some (false, .tup [.int ((x - p : Nat) : Int)]) := rfl
  generalize hA : addN (leftN g a (cnt (x - p) x g) (x - p)) (sg (cnt (x - p) x g) v) acc = acc' at *
  generalize hK : (leftN g a (cnt (x - p) x g) (x - p)).map nD = KK at *
  generalize lookN (leftN g a (cnt (x - p) x g) (x - p)) acc = lk at *
  clear hA hK
  generalize ((g.take a).map nD) = T1 at *
  generalize (((g.drop (a + 1)).take (cnt (x - p) x g)).map nD) = T2 at *
  generalize ((g.drop (a + 1 + cnt (x - p) x g)).map nD) = T3 at *
  generalize ((cnt (x - p) x g : Nat) : Int) = c at *
  generalize sg (cnt (x - p) x g) v = s at *
  generalize g.map nD = T at *
  generalize ((x - p : Nat) : Int) = lo at *
  obtain ⟨L, hL⟩ : ∃ L, dcD acc = .dT L := ⟨_, rfl⟩
  obtain ⟨L', hL'⟩ : ∃ L, dcD acc' = .dT L := ⟨_, rfl⟩
  rw [hL] at ho hset hc ⊢
  refine ⟨some (.fz, .int lo), some (.fz, .int c), some (.fz, .tup KK), some (.fz, .int s), ?_⟩
  have hsg' : ∀ ρ : Ve, gt ρ 6 = some (.int v) → True := fun _ _ => trivial
  by_cases h2 : c % 2 = 0
  · rw [if_pos h2] at hsg
    subst hsg
    simp [-List.append_assoc, bodyB, sSeq, sAsgR, sIf, sSet, sRet, sNx, sDrop, evO, evOs, vals, getAll, Hd.get, eP, eC, p1, p2, qP, qR, qC, gtR_eq, gt, nthR_eq, setR_eq, eVarR, asgR, tPf, tAn, tOo, tNo, tTr, tTv, truD, fIf, fPrim, fPrimV, fSl, evP, slD, restR, wipeR, fCall, fCallI, fMake, fAndV, fNotV, i_lt, i_le, i_gt, i_ge, i_add, i_sub, i_eq, i_ne, e, hnn, hz, hc, hlen, s1, s2, s3, htup, t1, t2, t3, hmod, h2, fGet, fGet.fGet', ho, hog, hset]
  · rw [if_neg h2] at hsg
    subst hsg
    simp [-List.append_assoc, bodyB, sSeq, sAsgR, sIf, sSet, sRet, sNx, sDrop, evO, evOs, vals, getAll, Hd.get, eP, eC, p1, p2, qP, qR, qC, gtR_eq, gt, nthR_eq, setR_eq, eVarR, asgR, tPf, tAn, tOo, tNo, tTr, tTv, truD, fIf, fPrim, fPrimV, fSl, evP, slD, restR, wipeR, fCall, fCallI, fMake, fAndV, fNotV, i_lt, i_le, i_gt, i_ge, i_add, i_sub, i_eq, i_ne, e, hnn, hz, hc, hlen, s1, s2, s3, htup, t1, t2, t3, hmod, h2, hng, fGet, fGet.fGet', ho, hog, hset]
theorem left_len {g : List Nat} {a c lo : Nat} (h : a < g.length) : (leftN g a c lo).length = g.length := by
  unfold leftN
  simp
  omega
theorem loopB (A0 A1 A2 : Sl) (p : Nat) (v : Int) (g : List Nat) (acc : Dc) (hg : g.length ≤ 12) (hn : (keysN acc).Nodup) (hl : acc.length + g.length < 100000) (hk : ∀ k ∈ keysN acc, k.length ≤ 12) (x7 x8 x9 x10 x11 x12 : Sl) : ∃ y7 y8 y9 y10 y11 y12,
    loopR (.t [(.n 7), (.n 8)]) bodyB (eN 0 g) [A0, A1, A2, some (.fz, .int (p : Nat)), some (.ow, dcD acc), some (.fz, .tup (g.map nD)), some (.fz, .int v), x7, x8, x9, x10, x11, x12, none] =
      .nx [A0, A1, A2, some (.fz, .int (p : Nat)), some (.ow, dcD (stepB p g v 0 g acc)), some (.fz, .tup (g.map nD)), some (.fz, .int v), y7, y8, y9, y10, y11, y12, none] ∧
      (keysN (stepB p g v 0 g acc)).Nodup ∧ (stepB p g v 0 g acc).length ≤ acc.length + g.length ∧ ∀ k ∈ keysN (stepB p g v 0 g acc), k.length ≤ 12 := by
  have hel : ∀ (l : List Nat) (k : Nat), (en k l).length = l.length := fun l => by
    induction l with
    | nil => intro k; rfl
    | cons x l ih => intro k; unfold en; rw [List.length_cons, ih, List.length_cons]
  obtain ⟨ρ', h1, y7, y8, y9, y10, y11, y12, h2, h3, h4, h5⟩ := loopR_inv (t := .t [(.n 7), (.n 8)]) (body := bodyB) pD (fun (acc : Dc) (b : Nat × Nat) => bif Nat.ble p b.2 && !(mem (b.2 - p) g) then addK (leftN g b.1 (cnt (b.2 - p) b.2 g) (b.2 - p)) (sg (cnt (b.2 - p) b.2 g) v) acc else acc)
    (fun i ac ρ => ∃ y7 y8 y9 y10 y11 y12, ρ = [A0, A1, A2, some (.fz, .int (p : Nat)), some (.ow, dcD ac), some (.fz, .tup (g.map nD)), some (.fz, .int v), y7, y8, y9, y10, y11, y12, none] ∧ (keysN ac).Nodup ∧ ac.length ≤ acc.length + i ∧ ∀ k ∈ keysN ac, k.length ≤ 12) (en 0 g)
    (fun i b hb ac ρ ⟨y7, y8, y9, y10, y11, y12, e, hn, hl1, hk⟩ => by
      obtain ⟨a, x⟩ := b
      obtain ⟨ha, hgx⟩ := en_at g 0 i (a, x) hb
      have hai : a = i := by simpa using ha
      have hil : i < g.length := (List.getElem?_eq_some_iff.mp hgx).1
      subst e
      refine ⟨[A0, A1, A2, some (.fz, .int (p : Nat)), some (.ow, dcD ac), some (.fz, .tup (g.map nD)), some (.fz, .int v), some (.fz, .int (a : Nat)), some (.fz, .int (x : Nat)), y9, y10, y11, y12, none], ?_⟩
      cases hb : (Nat.ble p x && !(mem (x - p) g)) with
      | false =>
        obtain ⟨y, hy⟩ := bodyB_skip A0 A1 A2 (some (.ow, dcD ac)) (some (.fz, .int v)) (some (.fz, .int (a : Nat))) y9 y10 y11 y12 p x g hb
        exact ⟨_, rfl, .inl hy, _, _, y, y10, y11, y12, rfl, hn, (by show ac.length ≤ _; omega), hk⟩
      | true =>
        obtain ⟨z9, z10, z11, z12, hy⟩ := bodyB_put A0 A1 A2 y9 y10 y11 y12 p a x v g ac hb (by omega) hn (by omega)
        refine ⟨_, rfl, .inl hy, some (.fz, .int (a : Nat)), some (.fz, .int (x : Nat)), z9, z10, z11, z12, ?_, ?_, ?_, ?_⟩
        · dsimp only [cond_true]; rw [addK_eq]
        · dsimp only [cond_true]; rw [addK_eq]; exact addN_nodup hn
        · dsimp only [cond_true]; rw [addK_eq]
          have := addN_len (leftN g a (cnt (x - p) x g) (x - p)) (sg (cnt (x - p) x g) v) ac
          omega
        · dsimp only [cond_true]; rw [addK_eq]
          intro k hkk
          rcases addN_mem hkk with e | hkk
          · subst e; rw [left_len (by omega)]; exact hg
          · exact hk k hkk) acc _ ⟨x7, x8, x9, x10, x11, x12, rfl, hn, Nat.le_refl _, hk⟩
  rw [← stepB_fold] at h2 h3 h4 h5
  rw [hel] at h4
  subst h2
  exact ⟨y7, y8, y9, y10, y11, y12, by rw [eN_en]; exact h1, h3, h4, h5⟩
abbrev bodyM : SF := (sForR (.t [(.n 7), (.n 8)]) (iEnu2 (eVarR 5)) bodyB)
theorem loopM (A0 A1 A2 : Sl) (p : Nat) (fd : Dc) (hf : fd.length ≤ 1000) (hk : ∀ k ∈ keysN fd, k.length ≤ 12) (x5 x6 x7 x8 x9 x10 x11 x12 : Sl) : ∃ y5 y6 y7 y8 y9 y10 y11 y12,
    loopS (.t [(.n 5), (.n 6)]) bodyM (fd.map fun kv => .tup [.tup (kv.1.map nD), .int kv.2]) [A0, A1, A2, some (.fz, .int (p : Nat)), some (.ow, dcD []), x5, x6, x7, x8, x9, x10, x11, x12, none] =
      .nx [A0, A1, A2, some (.fz, .int (p : Nat)), some (.ow, dcD (turnB p fd)), y5, y6, y7, y8, y9, y10, y11, y12, none] ∧ (keysN (turnB p fd)).Nodup ∧ ∀ k ∈ keysN (turnB p fd), k.length ≤ 12 := by
  obtain ⟨ρ', h1, y5, y6, y7, y8, y9, y10, y11, y12, h2, h3, h4, h5⟩ := loopR_inv (t := .t [(.n 5), (.n 6)]) (body := bodyM) (fun kv : List Nat × Int => D.tup [.tup (kv.1.map nD), .int kv.2]) (fun (acc : Dc) kv => stepB p kv.1 kv.2 0 kv.1 acc)
    (fun i ac ρ => ∃ y5 y6 y7 y8 y9 y10 y11 y12, ρ = [A0, A1, A2, some (.fz, .int (p : Nat)), some (.ow, dcD ac), y5, y6, y7, y8, y9, y10, y11, y12, none] ∧ (keysN ac).Nodup ∧ ac.length ≤ 12 * i ∧ ∀ k ∈ keysN ac, k.length ≤ 12) fd
    (fun i b hb ac ρ ⟨y5, y6, y7, y8, y9, y10, y11, y12, e, hn, hl, hk'⟩ => by
      obtain ⟨g, v⟩ := b
      have hg : g.length ≤ 12 := hk g (List.mem_map.mpr ⟨(g, v), List.mem_of_getElem? hb, rfl⟩)
      have hi : i < fd.length := (List.getElem?_eq_some_iff.mp hb).1
      subst e
      obtain ⟨z7, z8, z9, z10, z11, z12, e1, e2, e3, e4⟩ := loopB A0 A1 A2 p v g ac hg hn (by omega) hk' y7 y8 y9 y10 y11 y12
      refine ⟨[A0, A1, A2, some (.fz, .int (p : Nat)), some (.ow, dcD ac), some (.fz, .tup (g.map nD)), some (.fz, .int v), y7, y8, y9, y10, y11, y12, none], _, rfl, .inl ?_, some (.fz, .tup (g.map nD)), some (.fz, .int v), z7, z8, z9, z10, z11, z12, rfl, e2, (by show (stepB p g v 0 g ac).length ≤ _; omega), e4⟩
      have hE : iEnu2 (eVarR 5) [A0, A1, A2, some (.fz, .int (p : Nat)), some (.ow, dcD ac), some (.fz, .tup (g.map nD)), some (.fz, .int v), y7, y8, y9, y10, y11, y12, none] = .ok (eN 0 g) [A0, A1, A2, some (.fz, .int (p : Nat)), some (.ow, dcD ac), some (.fz, .tup (g.map nD)), some (.fz, .int v), y7, y8, y9, y10, y11, y12, none] := by
        have := enumD_eq g
        simp [iEnu2, eVarR, nthR_eq, seqOf]
        exact this
      show sForR (.t [(.n 7), (.n 8)]) (iEnu2 (eVarR 5)) bodyB _ = _
      unfold sForR
      rw [hE]
      exact e1) [] _ ⟨x5, x6, x7, x8, x9, x10, x11, x12, rfl, List.nodup_nil, Nat.le_refl _, fun k h => by cases h⟩
  subst h2
  rw [loopR_eq] at h1
  exact ⟨y5, y6, y7, y8, y9, y10, y11, y12, h1, h3, h5⟩
abbrev bodyO : SF := (sSeq (sAsgR (.n 4) eD0T)
    (sSeq (sForI (.t [(.n 5), (.n 6)]) 2 bodyM)
    (sAsgR (.n 2) (eVarR 4))))
theorem loopO (A0 A1 : Sl) : ∀ (mu : List Nat) (fd d : Dc) (fl : Fl) (x3 x4 x5 x6 x7 x8 x9 x10 x11 x12 : Sl), (fl = .fz ∨ fl = .ow) → fd.length ≤ 1000 → (∀ k ∈ keysN fd, k.length ≤ 12) → runB mu fd = some d →
    ∃ fl' y3 y4 y5 y6 y7 y8 y9 y10 y11 y12, (fl' = .fz ∨ fl' = .ow) ∧ loopR (.n 3) bodyO (mu.map nD) [A0, A1, some (fl, dcD fd), x3, x4, x5, x6, x7, x8, x9, x10, x11, x12, none] = .nx [A0, A1, some (fl', dcD d), y3, y4, y5, y6, y7, y8, y9, y10, y11, y12, none] := by
  intro mu
  induction mu with
  | nil =>
    intro fd d fl x3 x4 x5 x6 x7 x8 x9 x10 x11 x12 hfl _ _ hr
    cases hr
    exact ⟨fl, x3, x4, x5, x6, x7, x8, x9, x10, x11, x12, hfl, rfl⟩
  | cons p mu ih =>
    intro fd d fl x3 x4 x5 x6 x7 x8 x9 x10 x11 x12 hfl hf hk hr
    have hr' : (bif few (turnB p fd) then runB mu (turnB p fd) else none) = some d := hr
    cases hw : few (turnB p fd) with
    | false => rw [hw] at hr'; cases hr'
    | true =>
      rw [hw] at hr'
      obtain ⟨z5, z6, z7, z8, z9, z10, z11, z12, e1, e2, e3⟩ := loopM A0 A1 (some (.fz, dcD fd)) p fd hf hk x5 x6 x7 x8 x9 x10 x11 x12
      obtain ⟨fl', y3, y4, y5, y6, y7, y8, y9, y10, y11, y12, hf', hL⟩ := ih (turnB p fd) d .fz (some (.fz, .int (p : Nat))) (some (.fz, dcD (turnB p fd))) z5 z6 z7 z8 z9 z10 z11 z12 (.inl rfl) (Nat.le_of_ble_eq_true hw) e3 hr'
      refine ⟨fl', y3, y4, y5, y6, y7, y8, y9, y10, y11, y12, hf', ?_⟩
      rw [List.map_cons, loopR_cons, ← hL]
      have hp : pairsD (dcD fd) = some (fd.map fun kv => .tup [.tup (kv.1.map nD), .int kv.2]) := by
        unfold pairsD dcD dcK
        dsimp only
        rw [List.map_map]
        congr 1
        apply List.map_congr_left
        intro kv _
        show D.tup [.tup ((kv.1.map kI).map keyD), .int kv.2] = _
        rw [keyD_nat]
      have h0 : dcD [] = .dT [] := rfl
      rw [h0] at e1
      clear hL ih
      generalize (fd.map fun kv => D.tup [.tup (kv.1.map nD), .int kv.2]) = PP at *
      generalize dcD fd = X at *
      generalize dcD (turnB p fd) = Y at *
      rcases hfl with hfl | hfl <;> subst hfl <;> simp [bodyO, sSeq, sAsgR, sIf, sSet, sRet, sNx, sDrop, evO, evOs, vals, getAll, Hd.get, eP, eC, p1, p2, qP, qR, qC, gtR_eq, gt, nthR_eq, setR_eq, eVarR, asgR, tPf, tAn, tOo, tNo, tTr, tTv, truD, fIf, fPrim, fPrimV, fSl, evP, slD, restR, wipeR, fCall, fCallI, fMake, fAndV, fNotV, i_lt, i_le, i_gt, i_ge, i_add, i_sub, i_eq, i_ne, eD0T, sForI, hp, noX, e1, nD]
def dgI (n : Nat) : Nat → List Nat → List Int
  | _, [] => []
  | k, s :: S => (((s : Nat) : Int) + ((n : Nat) : Int) - 1 - ((k : Nat) : Int)) :: dgI n (k + 1) S
theorem dgI_len (n : Nat) : ∀ (S : List Nat) (k : Nat), (dgI n k S).length = S.length
  | [], _ => rfl
  | s :: S, k => by unfold dgI; rw [List.length_cons, List.length_cons, dgI_len n S (k + 1)]
theorem dg_loop (A X Y : Sl) (n : Nat) : ∀ (S : List Nat) (k : Nat), loopCR [4, 5] (.t [(.n 4), (.n 5)]) tYe (eP (p2 prSub (qP (p2 prSub (qP (p2 prAdd (qR 5) (qR 1))) (qC (.int 1)))) (qR 4))) (eN k S) [A, some (.fz, .int (n : Nat)), X, Y, none, none] =
    .ok ((dgI n k S).map D.int) [A, some (.fz, .int (n : Nat)), X, Y, none, none] := by
  intro S
  induction S with
  | nil => intro k; rfl
  | cons s S ih =>
    intro k
    have hi := ih (k + 1)
    unfold eN dgI
    rw [lc_cons]
    simp [asgR, setR_eq, tYe, eP, p2, qP, qR, qC, gtR_eq, gt, i_add, i_sub, wipeR, hi, CR.con]
theorem degrees_eq (S : List Nat) (hl : S.length ≤ 1000) : m_degrees_of [tup S, .int (S.length : Nat)] = .ok false (.tup ((dgI S.length 0 S).map D.int)) .non := by
  have hr : iRng [(.e (eP (p2 prSub (qR 1) (qP (p1 prLenQ (qR 0))))))] [some (.fz, tup S), some (.fz, .int (S.length : Nat)), none, none, none, none] = .ok ((List.range 0).map iD) [some (.fz, tup S), some (.fz, .int (S.length : Nat)), none, none, none, none] :=
    iRng_nat (h := .val (.int ((0 : Nat) : Int))) (n := 0) (by simp [evO, eP, p2, p1, qP, qR, gtR_eq, gt, tup, l_tup, i_sub]) rfl (by decide)
  have hc := fLcR_ok (vs := [3]) (t := .n 3) (c := tYe) (el := eC (.int 0)) hr rfl (by simp) (lc_nil (ρ := wipeR [some (.fz, tup S), some (.fz, .int (S.length : Nat)), none, none, none, none] [3]))
  have hE : iEnu2 (eVarR 2) [some (.fz, tup S), some (.fz, .int (S.length : Nat)), some (.ow, .lst (S.map iD)), none, none, none] = .ok (eN 0 S) [some (.fz, tup S), some (.fz, .int (S.length : Nat)), some (.fz, .lst (S.map iD)), none, none, none] := by
    simp [iEnu2, eVarR, nthR_eq, seqOf, enumD_eq, setR_eq]
  have hL := dg_loop (some (.fz, tup S)) (some (.fz, .lst (S.map iD))) none S.length S 0
  have hen : (eN 0 S).length ≤ 100000 := by rw [← enumD_eq, enumD_len, List.length_map]; omega
  have hd := fLcR_ok (vs := [4, 5]) (t := .t [(.n 4), (.n 5)]) (c := tYe) (el := (eP (p2 prSub (qP (p2 prSub (qP (p2 prAdd (qR 5) (qR 1))) (qC (.int 1)))) (qR 4)))) hE rfl hen hL
  have hz : (S.map iD).length ≤ 100000 := by rw [List.length_map]; omega
  have ha : prAdd [.lst (S.map iD), .lst []] = some (true, .lst (S.map iD)) := by
    show (if (S.map iD).length + ([] : List D).length ≤ 100000 then some (true, D.lst (S.map iD ++ [])) else none) = _
    rw [if_pos (by simpa using hz), List.append_nil]
  have ht : prList [tup S] = some (true, .lst (S.map iD)) := rfl
  unfold m_degrees_of mF w_degrees_of
  generalize tup S = U at *
  generalize S.map iD = T at *
  simp [startV, sSeq, sAsgR, fPrim, evOs, evO, eP, p1, qR, gtR_eq, gt, ht, hc, getAll, Hd.get, ha, asgR, setR_eq, restR, wipeR, nthR_eq, sRet, hd, prTuple, finF]
/-! numbers of degrees -/
theorem dg_deg (n : Nat) : ∀ (S : List Nat) (k : Nat), k + S.length ≤ n → (dgI n k S).map D.int = (degN n k S).map nD
  | [], _, _ => rfl
  | s :: S, k, h => by
    rw [List.length_cons] at h
    have e : ((s : Nat) : Int) + ((n : Nat) : Int) - 1 - ((k : Nat) : Int) = ((s + n - 1 - k : Nat) : Int) := by omega
    unfold dgI degN
    rw [List.map_cons, List.map_cons, dg_deg n S (k + 1) (by omega), e]; rfl
theorem deg_eq (S : List Nat) (hS : S.length ≤ 1000) : m_degrees_of [tup S, .int (S.length : Nat)] = .ok false (.tup ((degN S.length 0 S).map nD)) .non := by
  rw [degrees_eq S hS, dg_deg S.length S 0 (by omega)]
theorem degN_len (n : Nat) : ∀ (S : List Nat) (k : Nat), (degN n k S).length = S.length
  | [], _ => rfl
  | s :: S, k => by unfold degN; rw [List.length_cons, List.length_cons, degN_len n S (k + 1)]
theorem sumV_ints : ∀ d : Dc, (d.map (·.2)).sum = sumV d
  | [] => rfl
  | kv :: d => by rw [List.map_cons, List.sum_cons, sumV_ints d]; try rfl
theorem sum_vals (d : Dc) : prSum [.lst ((dcK d).map (·.2))] = some (false, .int (sumV d)) := by
  have e : (dcK d).map (·.2) = (d.map (·.2)).map D.int := by unfold dcK; rw [List.map_map, List.map_map]; try rfl
  have h : ∀ l : List Int, intsOf (l.map D.int) = some l := fun l => by
    induction l with
    | nil => rfl
    | cons a l ih => rw [List.map_cons]; unfold intsOf; rw [ih]
  rw [e]
  unfold prSum seqOf
  dsimp only
  rw [h]
  dsimp only
  rw [sumV_ints]
theorem trace_of_eq (S mu : List Nat) (v : Int) (hS : S.length ≤ 12) (h : back S mu = some v) : m_trace_of [tup S, .lst (mu.map nD)] = .ok false (.int v) .non := by
  unfold back at h
  split at h
  · rename_i d hd
    cases h
    have h0 := deg_eq S (by omega)
    have hln : prLenQ [tup S] = some (false, .int (S.length : Nat)) := by unfold tup; rw [l_tup, List.length_map]
    obtain ⟨fl', y3, y4, y5, y6, y7, y8, y9, y10, y11, y12, hfl, hL⟩ := loopO (some (.fz, tup S)) (some (.fz, .lst (mu.map nD))) mu [(degN S.length 0 S, 1)] d .ow none none none none none none none none none none (.inr rfl) (by simp) (fun k hk => by
      have : k = degN S.length 0 S := by simpa [keysN] using hk
      subst this
      rw [degN_len]; exact hS) hd
    have hD : ∀ ρ : Ve, fDisp1 (fCall m_degrees_of [(.e (eVarR 0)), (.e (eP (p1 prLenQ (qR 0))))]) (eC (.int 1)) (some (.fz, tup S) :: ρ) = .ok true (dcD [(degN S.length 0 S, 1)]) (some (.fz, tup S) :: ρ) := fun ρ => by
      have hk := ksOf_nat (degN S.length 0 S)
      generalize tup S = U at *
      generalize hT : (degN S.length 0 S).map nD = T at *
      have : dcD [(degN S.length 0 S, 1)] = .dT [((degN S.length 0 S).map kI, .int 1)] := rfl
      rw [this]
      simp [fDisp1, sSeq, sAsgR, sIf, sSet, sRet, sNx, sDrop, evO, evOs, vals, getAll, Hd.get, eP, eC, p1, p2, qP, qR, qC, gtR_eq, gt, nthR_eq, setR_eq, eVarR, asgR, tPf, tAn, tOo, tNo, tTr, tTv, truD, fIf, fPrim, fPrimV, fSl, evP, slD, restR, wipeR, fCall, fCallI, fMake, fAndV, fNotV, i_lt, i_le, i_gt, i_ge, i_add, i_sub, i_eq, i_ne, hln, h0, ksD, hk]
    have hv := sum_vals d
    have hdd : dcD d = .dT (dcK d) := rfl
    rw [hdd] at hL
    unfold m_trace_of mF w_trace_of
    have hb : bodyO = (sSeq (sAsgR (.n 4) eD0T)
      (sSeq (sForI (.t [(.n 5), (.n 6)]) 2 bodyM)
      (sAsgR (.n 2) (eVarR 4)))) := rfl
    generalize mu.map nD = M at *
    generalize dcD [(degN S.length 0 S, 1)] = X at *
    generalize fDisp1 (fCall m_degrees_of [(.e (eVarR 0)), (.e (eP (p1 prLenQ (qR 0))))]) (eC (.int 1)) = ff at *
    show (match sSeq (sAsgR (.n 2) ff) (sSeq (sForR (.n 3) (iSeq (eVarR 1)) bodyO) (sRet (fPrim prSum [(.e (fLV (.v 2)))]))) (startV 14 [tup S, .lst M]) with
      | r => finF r) = _
    generalize bodyO = bo at *
    generalize tup S = U at *
    rcases hfl with hfl | hfl <;> subst hfl <;> simp [startV, sSeq, sAsgR, sIf, sSet, sRet, sNx, sDrop, evO, evOs, vals, getAll, Hd.get, eP, eC, p1, p2, qP, qR, qC, gtR_eq, gt, nthR_eq, setR_eq, eVarR, asgR, tPf, tAn, tOo, tNo, tTr, tTv, truD, fIf, fPrim, fPrimV, fSl, evP, slD, restR, wipeR, fCall, fCallI, fMake, fAndV, fNotV, i_lt, i_le, i_gt, i_ge, i_add, i_sub, i_eq, i_ne, hD, sForR, iSeq, seqOf, hL, fLV, hv, finF]
  · cases h
end
end Law_k14
/-! part Lt -/
set_option Elab.async false
set_option linter.all false
set_option maxRecDepth 100000
set_option maxHeartbeats 4000000
/-! Lt: _law_trace of k14 is N14's forward walk -/
namespace N14
open PySem L2 Pf
noncomputable section
/-! hashes -/
theorem hashInt_nat (n : Nat) : PySem.hashInt (n : Nat) = ((n % 2305843009213693951 : Nat) : Int) := by
  have hr : PySem.rawHash (n : Nat) = ((n % 2305843009213693951 : Nat) : Int) := by
    unfold PySem.rawHash
    have h1 : ¬ ((n : Nat) : Int) < 0 := by omega
    have h2 : (((n : Nat) : Int).natAbs : Int) % ((2 ^ 61 - 1 : Nat) : Int) = ((n % 2305843009213693951 : Nat) : Int) := by
      rw [show (2 ^ 61 - 1 : Nat) = 2305843009213693951 from by decide]; omega
    simp only [h1, if_false, h2]
    have h3 : (((n % 2305843009213693951 : Nat) : Int) == -1) = false := by
      rw [beq_eq_false_iff_ne]; omega
    rw [h3]; rfl
  unfold PySem.hashInt
  rw [hr]
  have h3 : (((n % 2305843009213693951 : Nat) : Int) == -1) = false := by
    rw [beq_eq_false_iff_ne]; omega
  rw [h3]; rfl
def finH (acc n : Nat) : Int :=
  let acc := (acc + (n ^^^ (2870177450012600261 ^^^ 3527539))) % 18446744073709551616
  if acc == 18446744073709551616 - 1 then 1546275796 else if acc < 2 ^ 63 then acc else (acc : Int) - 18446744073709551616
theorem tupH (l : List Int) : Builtin.Tuple.tupleHashOf l = finH (l.foldl (fun acc h => hAcc acc (h % (18446744073709551616 : Int)).toNat) 2870177450012600261) l.length := by
  rfl
theorem step_nat (acc x : Nat) : hAcc acc ((keyI (kI x)) % (18446744073709551616 : Int)).toNat = hStep acc x := by
  have e0 : keyI (kI x) = PySem.hashInt (x : Nat) := by unfold keyI kI; rfl
  have e2 : ((((x % 2305843009213693951 : Nat) : Int)) % (18446744073709551616 : Int)).toNat = x % 2305843009213693951 := by omega
  rw [e0, hashInt_nat, e2]
  unfold hStep
  rfl
theorem fold_gen (f : Nat → Int → Nat) (h : Nat → Nat → Nat) (k : Nat → Int) (e : ∀ a x, f a (k x) = h a x) : ∀ (g : List Nat) (acc : Nat), (g.map k).foldl f acc = foldH h g acc
  | [], _ => rfl
  | x :: g, acc => by
    rw [List.map_cons, List.foldl_cons, fold_gen f h k e g, e]; rfl
theorem fold_nat (g : List Nat) (acc : Nat) : ((g.map kI).map keyI).foldl (fun acc h => hAcc acc (h % (18446744073709551616 : Int)).toNat) acc = hFold g acc := by
  rw [List.map_map]
  exact fold_gen (fun acc h => hAcc acc (h % (18446744073709551616 : Int)).toNat) hStep (keyI ∘ kI) (fun a x => step_nat a x) g acc
def valH (n : Nat) : Int := if n < 2 ^ 63 then (n : Int) else (n : Int) - 18446744073709551616
theorem hashK_nat (g : List Nat) (h : hOk (hN g) = true) : hashK (g.map kI) = valH (hN g) := by
  unfold hOk at h
  rw [Bool.and_eq_true] at h
  have h1 : hN g < 18446744073709551614 := Nat.ble_eq.mp h.1
  unfold hashK
  rw [tupH, fold_nat, List.length_map, List.length_map]
  have e : finH (hFold g 2870177450012600261) g.length = valH (hN g) := by
    unfold finH valH
    have e : (hFold g 2870177450012600261 + (g.length ^^^ (2870177450012600261 ^^^ 3527539))) % 18446744073709551616 = hN g := rfl
    simp only [e]
    rw [if_neg (by rw [beq_iff_eq]; omega)]
  rw [e]
  unfold reduceHash valH
  split
  · rw [if_pos (by simp; omega), if_neg (by rw [beq_iff_eq]; omega)]
  · rw [if_pos (by simp; omega), if_neg (by rw [beq_iff_eq]; omega)]
theorem valH_inj {a b : Nat} (ha : a < 18446744073709551616) (hb : b < 18446744073709551616) (h : valH a = valH b) : a = b := by
  unfold valH at h
  split at h <;> split at h <;> omega
theorem notIn_ok (n : Nat) : ∀ l : List Nat, notIn n l = true → ¬ n ∈ l
  | [], _, h => by cases h
  | x :: l, e, h => by
    have e' : (bif Nat.beq n x then false else notIn n l) = true := e
    cases hb : Nat.beq n x with
    | true => rw [hb] at e'; cases e'
    | false =>
      rw [hb] at e'
      rcases List.mem_cons.mp h with h | h
      · subst h; rw [Nat.beq_refl] at hb; cases hb
      · exact notIn_ok n l e' h
theorem ndN_ok : ∀ l : List Nat, ndN l = true → l.Nodup
  | [], _ => List.nodup_nil
  | x :: l, e => by
    have e' : (bif notIn x l then ndN l else false) = true := e
    cases hb : notIn x l with
    | false => rw [hb] at e'; cases e'
    | true => rw [hb] at e'; exact List.nodup_cons.mpr ⟨notIn_ok x l hb, ndN_ok l e'⟩
structure OkD (d : Dc) : Prop where
  few : d.length ≤ 1000
  sm : ∀ kv ∈ d, kv.2.natAbs < 1000000000000
theorem okD_ok {d : Dc} (h : okD d = true) : OkD d := by
  unfold okD at h
  simp only [Bool.and_eq_true] at h
  obtain ⟨h1, h2⟩ := h
  exact ⟨Nat.le_of_ble_eq_true h1, fun kv hkv => Nat.ble_eq.mp (List.all_eq_true.mp h2 kv hkv)⟩
/-! falling lists -/
def Fall (g : List Nat) : Prop := g.Pairwise (· > ·)
theorem era_eq : ∀ (g : List Nat) (a : Nat), era a g = g.eraseIdx a
  | [], _ => rfl
  | _ :: _, 0 => rfl
  | x :: g, a + 1 => by
    show x :: era a g = _
    rw [era_eq g a]; rfl
theorem insD_perm (x : Nat) : ∀ l : List Nat, (insD x l).Perm (x :: l)
  | [] => List.Perm.refl _
  | y :: l => by
    show (bif Nat.blt y x then x :: y :: l else y :: insD x l).Perm _
    cases Nat.blt y x with
    | true => exact List.Perm.refl _
    | false => exact ((insD_perm x l).cons y).trans (List.Perm.swap x y l)
theorem insD_fall {x : Nat} : ∀ {l : List Nat}, Fall l → ¬ x ∈ l → Fall (insD x l)
  | [], _, _ => List.pairwise_singleton _ _
  | y :: l, h, hn => by
    obtain ⟨h1, h2⟩ := List.pairwise_cons.mp h
    show Fall (bif Nat.blt y x then x :: y :: l else y :: insD x l)
    cases hb : Nat.blt y x with
    | true =>
      have : y < x := Nat.ble_eq.mp hb
      refine List.pairwise_cons.mpr ⟨fun z hz => ?_, h⟩
      rcases List.mem_cons.mp hz with e | hz
      · subst e; exact this
      · have := h1 z hz; omega
    | false =>
      have hyx : ¬ y < x := fun e => by
        have : Nat.blt y x = true := Nat.ble_eq.mpr e
        rw [this] at hb; cases hb
      have hne : x ≠ y := fun e => hn (e ▸ List.mem_cons_self ..)
      refine List.pairwise_cons.mpr ⟨fun z hz => ?_, insD_fall h2 fun hx => hn (List.mem_cons_of_mem _ hx)⟩
      rcases List.mem_cons.mp ((insD_perm x l).mem_iff.mp hz) with e | hz
      · subst e; omega
      · exact h1 z hz
theorem mem_iff (x : Nat) : ∀ l : List Nat, mem x l = true ↔ x ∈ l
  | [] => by simp [mem]
  | y :: l => by
    have ih := mem_iff x l
    show (bif Nat.beq x y then true else mem x l) = true ↔ _
    cases hb : Nat.beq x y with
    | true => have := Nat.eq_of_beq_eq_true hb; subst this; simp
    | false =>
      have hne : x ≠ y := fun e => by subst e; rw [Nat.beq_refl] at hb; cases hb
      rw [List.mem_cons]
      constructor
      · intro h; exact .inr (ih.mp h)
      · rintro (h | h)
        · exact absurd h hne
        · exact ih.mpr h
theorem sort_eq {g : List Nat} {a x : Nat} (hf : Fall g) (hm : mem x g = false) (ha : a < g.length) :
    ((insD x (era a g)).map fun n : Nat => (n : Int)) = srtB true (((g.take a ++ [x]) ++ g.drop (a + 1)).map fun n : Nat => (n : Int)) := by
  have hx : ¬ x ∈ g := fun h => by rw [(mem_iff x g).mpr h] at hm; cases hm
  rw [era_eq]
  have hsub : (g.eraseIdx a).Sublist g := List.eraseIdx_sublist g a
  have hfe : Fall (g.eraseIdx a) := List.Pairwise.sublist hsub hf
  have hxe : ¬ x ∈ g.eraseIdx a := fun h => hx (hsub.subset h)
  refine srtB_uniq ?_ ?_
  · refine List.Perm.map _ ((insD_perm x _).trans ?_)
    rw [List.eraseIdx_eq_take_drop_succ, List.append_assoc]
    exact List.perm_middle.symm
  · have hh := insD_fall hfe hxe
    show (List.map _ _).Pairwise _
    refine List.pairwise_map.mpr (hh.imp fun {p q} h => ?_)
    show ((p : Nat) : Int) ≥ (q : Nat)
    omega
def tri : Nat → Nat
  | 0 => 0
  | n + 1 => tri n + n
theorem fall_low : ∀ (g : List Nat), Fall g → tri g.length ≤ g.sum ∧ ∀ x, (∀ y ∈ g, y < x) → g.length ≤ x
  | [], _ => ⟨Nat.le_refl _, fun _ _ => Nat.zero_le _⟩
  | a :: g, h => by
    obtain ⟨h1, h2⟩ := List.pairwise_cons.mp h
    obtain ⟨k1, k2⟩ := fall_low g h2
    have k3 := k2 a fun y hy => h1 y hy
    refine ⟨?_, fun x hx => ?_⟩
    · rw [List.length_cons, List.sum_cons]; show tri g.length + g.length ≤ _; omega
    · have := hx a (List.mem_cons_self ..); rw [List.length_cons]; omega
theorem mem_fl : ∀ (n e b : Nat) (g : List Nat), Fall g → g.length = n → g.sum = e + tri n → (∀ x ∈ g, x < n + b) → g ∈ fl n e b
  | 0, e, b, g, _, hl, hs, _ => by
    have : g = [] := List.length_eq_zero_iff.mp hl
    subst this
    have : e = 0 := by simpa [tri] using hs.symm
    subst this
    unfold fl; simp
  | n + 1, e, b, [], _, hl, _, _ => by simp at hl
  | n + 1, e, b, x :: r, hf, hl, hs, hb => by
    obtain ⟨h1, h2⟩ := List.pairwise_cons.mp hf
    have hlr : r.length = n := by simpa using hl
    obtain ⟨k1, k2⟩ := fall_low r h2
    have k3 := k2 x fun y hy => h1 y hy
    rw [hlr] at k1 k3
    rw [List.sum_cons] at hs
    have ht : tri (n + 1) = tri n + n := rfl
    have hx := hb x (List.mem_cons_self ..)
    unfold fl
    refine List.mem_flatMap.mpr ⟨x - n, List.mem_range.mpr (by omega), ?_⟩
    refine List.mem_map.mpr ⟨r, mem_fl n (e - (x - n)) (x - n) r h2 hlr (by omega) (fun y hy => by have := h1 y hy; omega), ?_⟩
    congr 1; omega
theorem le_sum : ∀ (l : List Nat) (x : Nat), x ∈ l → x ≤ l.sum
  | [], _, h => by cases h
  | a :: l, x, h => by
    rw [List.sum_cons]
    rcases List.mem_cons.mp h with e | h
    · omega
    · have := le_sum l x h; omega
theorem inj_of {α β : Type} (f : α → β) : ∀ {K : List α}, (K.map f).Nodup → ∀ a ∈ K, ∀ b ∈ K, f a = f b → a = b
  | [], _, a, ha, _, _, _ => by cases ha
  | c :: K, h, a, ha, b, hb, e => by
    rw [List.map_cons] at h
    obtain ⟨h1, h2⟩ := List.nodup_cons.mp h
    rcases List.mem_cons.mp ha with ha | ha <;> rcases List.mem_cons.mp hb with hb | hb
    · rw [ha, hb]
    · exact absurd (List.mem_map.mpr ⟨b, hb, by rw [← e, ha]⟩) h1
    · exact absurd (List.mem_map.mpr ⟨a, ha, by rw [e, hb]⟩) h1
    · exact inj_of f h2 a ha b hb e
theorem fl_all : ((List.range 13).all fun n => (List.range 13).all fun e => okFl n e) = true := by decide +kernel
theorem okH_of {far e : Nat} {d : Dc} (hfar : far < 13) (he : e < 13) (hn : (keysN d).Nodup) (hk : ∀ k ∈ keysN d, Fall k ∧ k.length = far ∧ k.sum = e + tri far) : okH (dcK d) = true := by
  have ho := List.all_eq_true.mp (List.all_eq_true.mp fl_all far (List.mem_range.mpr hfar)) e (List.mem_range.mpr he)
  unfold okFl at ho
  rw [Bool.and_eq_true] at ho
  have htri : tri far ≤ 78 := by
    have : ∀ n, n < 13 → tri n ≤ 78 := by decide
    exact this far hfar
  have hin : ∀ k ∈ keysN d, k ∈ fl far e 100 := fun k hkk => by
    obtain ⟨h1, h2, h3⟩ := hk k hkk
    refine mem_fl far e 100 k h1 h2 h3 fun x hx => ?_
    have : x ≤ k.sum := le_sum k x hx
    omega
  have hok : ∀ k ∈ keysN d, hOk (hN k) = true := fun k hkk => List.all_eq_true.mp ho.1 _ (List.mem_map.mpr ⟨k, hin k hkk, rfl⟩)
  unfold okH
  rw [Bool.and_eq_true]
  refine ⟨?_, decide_eq_true ?_⟩
  · refine List.all_eq_true.mpr fun kv hkv => ?_
    obtain ⟨x, _, rfl⟩ := List.mem_map.mp hkv
    refine List.all_eq_true.mpr fun k hk => ?_
    obtain ⟨n, _, rfl⟩ := List.mem_map.mp hk
    rfl
  · have e1 : ((dcK d).map fun kv => hashK kv.1) = (keysN d).map fun k => valH (hN k) := by
      unfold dcK keysN
      rw [List.map_map, List.map_map]
      refine List.map_congr_left fun kv hkv => ?_
      exact hashK_nat kv.1 (hok kv.1 (List.mem_map.mpr ⟨kv, hkv, rfl⟩))
    rw [e1]
    refine List.pairwise_map.mpr (List.Pairwise.imp_of_mem (fun {a b} ha hb hab e => ?_) hn)
    have := valH_inj (Nat.mod_lt _ (by decide)) (Nat.mod_lt _ (by decide)) e
    exact hab (inj_of hN (ndN_ok _ ho.2) a (hin a ha) b (hin b hb) this)
theorem insD_len (x : Nat) (l : List Nat) : (insD x l).length = l.length + 1 := (insD_perm x l).length_eq
end
end N14
namespace Law_k14
open PySem L2 Pf N14
noncomputable section
abbrev cmp11 : EF := (fLcR [11] (iSeq (eVarR 6)) (.n 11) (tAn (tPf (p2 prLt (qP (p2 prSubQ (qR 6) (qR 7))) (qR 11))) (tPf (p2 prLt (qR 11) (qR 8)))) (eVarR 11))
theorem comp11 (A0 A1 A2 A3 A4 A5 A9 A10 : Sl) (i x put : Nat) (g : List Nat) (hg : g.length ≤ 1000) (hx : g[i]? = some x) :
    cmp11 [A0, A1, A2, A3, A4, A5, some (.fz, .tup (g.map nD)), some (.fz, .int (i : Nat)), some (.fz, .int (put : Nat)), A9, A10, none] =
      .ok true (.lst ((g.filter fun o => decide (x < o) && decide (o < put)).map nD)) [A0, A1, A2, A3, A4, A5, some (.fz, .tup (g.map nD)), some (.fz, .int (i : Nat)), some (.fz, .int (put : Nat)), A9, A10, none] := by
  have q : prSubQ [.tup (g.map nD), .int (i : Nat)] = some (false, .int (x : Nat)) := q_tup (at_nat hx)
  refine fLcR_same nD (fun o => decide (x < o) && decide (o < put)) nD (xs := g) (F := iSeq (eVarR 6)) rfl rfl (by omega) rfl rfl fun o _ => ⟨_, rfl, ?_, fun _ => ⟨false, rfl⟩, rfl⟩
  generalize g.map nD = T at *
  by_cases h : x < o
  · simp [seqOf, sSeq, sAsgR, sIf, sSet, sRet, sNx, sDrop, evO, evOs, vals, getAll, Hd.get, eP, eC, p1, p2, qP, qR, qC, gtR_eq, gt, nthR_eq, setR_eq, eVarR, asgR, tPf, tAn, tOo, tNo, tTr, tTv, truD, fIf, fPrim, fPrimV, fSl, evP, slD, restR, wipeR, fCall, fCallI, fMake, fAndV, fNotV, i_lt, i_le, i_gt, i_ge, i_add, i_sub, i_eq, i_ne, q, nD, h]
  · simp [seqOf, sSeq, sAsgR, sIf, sSet, sRet, sNx, sDrop, evO, evOs, vals, getAll, Hd.get, eP, eC, p1, p2, qP, qR, qC, gtR_eq, gt, nthR_eq, setR_eq, eVarR, asgR, tPf, tAn, tOo, tNo, tTr, tTv, truD, fIf, fPrim, fPrimV, fSl, evP, slD, restR, wipeR, fCall, fCallI, fMake, fAndV, fNotV, i_lt, i_le, i_gt, i_ge, i_add, i_sub, i_eq, i_ne, q, nD, h]
abbrev bodyI : SF := (sSeq (sAsgR (.n 8) (eP (p2 prAdd (qP (p2 prSubQ (qR 6) (qR 7))) (qR 4))))
    (sIf (tPf (p2 prNin (qR 8) (qR 6))) (sSeq (sAsgR (.n 9) (fPrim prLenQ [(.e cmp11)]))
    (sSeq (sAsgR (.n 10) (fPrim prTuple [(.e (fPrim (prSortS true) [(.e (fPrim prAdd [(.e (fPrim prAdd [(.e (fSl (.v 6) none (some (.v 7)))), (.e (fPrimV prTup [(.e (eVarR 8))]))])), (.e (fSl (.v 6) (some (.e (eP (p2 prAdd (qR 7) (qC (.int 1)))))) none))]))]))]))
    (sSet 5 (.v 10) (fPrim prAdd [(.e (fGet (.v 5) (.v 10) (eC (.int 0)))), (.e (eP (p2 prMul (qP (p2 prSubQ (qR 3) (qR 6))) (qP (p2 prSub (qC (.int 1)) (qP (p2 prMul (qC (.int 2)) (qP (p2 prMod (qP (p1 prInt (qR 9))) (qC (.int 2)))))))))))])))) sNx))
theorem bodyI_skip (A0 A1 A2 A3 A5 A8 A9 A10 : Sl) (p i x : Nat) (g : List Nat) (hx : g[i]? = some x) (h : mem (x + p) g = true) : ∃ y,
    bodyI [A0, A1, A2, A3, some (.fz, .int (p : Nat)), A5, some (.fz, .tup (g.map nD)), some (.fz, .int (i : Nat)), A8, A9, A10, none] =
      .nx [A0, A1, A2, A3, some (.fz, .int (p : Nat)), A5, some (.fz, .tup (g.map nD)), some (.fz, .int (i : Nat)), y, A9, A10, none] := by
  have q : prSubQ [.tup (g.map nD), .int (i : Nat)] = some (false, .int (x : Nat)) := q_tup (at_nat hx)
  have e : ((x : Nat) : Int) + (p : Nat) = ((x + p : Nat) : Int) := by omega
  have hn := nin_tup (x + p) g
  rw [h] at hn
  refine ⟨some (.fz, .int ((x + p : Nat) : Int)), ?_⟩
  generalize g.map nD = T at *
  generalize ((x + p : Nat) : Int) = put at *
  simp [bodyI, seqOf, sSeq, sAsgR, sIf, sSet, sRet, sNx, sDrop, evO, evOs, vals, getAll, Hd.get, eP, eC, p1, p2, qP, qR, qC, gtR_eq, gt, nthR_eq, setR_eq, eVarR, asgR, tPf, tAn, tOo, tNo, tTr, tTv, truD, fIf, fPrim, fPrimV, fSl, evP, slD, restR, wipeR, fCall, fCallI, fMake, fAndV, fNotV, i_lt, i_le, i_gt, i_ge, i_add, i_sub, i_eq, i_ne, q, e, hn]
theorem bodyI_put (A0 A1 A2 A8 A9 A10 : Sl) (p i x : Nat) (g : List Nat) (fd acc : Dc) (hx : g[i]? = some x) (h : mem (x + p) g = false) (hg : g.length ≤ 1000) (hf : Fall g) (hfd : ∀ kv ∈ fd, kv.2.natAbs < 1000000000000) (hgk : g ∈ keysN fd) (hn : (keysN acc).Nodup) (hl : acc.length < 100000) : ∃ y8 y9 y10,
    bodyI [A0, A1, A2, some (.fz, dcD fd), some (.fz, .int (p : Nat)), some (.ow, dcD acc), some (.fz, .tup (g.map nD)), some (.fz, .int (i : Nat)), A8, A9, A10, none] =
      .nx [A0, A1, A2, some (.fz, dcD fd), some (.fz, .int (p : Nat)), some (.ow, dcD (addN (insD (x + p) (era i g)) (sg (cnt x (x + p) g) (lookN g fd)) acc)), some (.fz, .tup (g.map nD)), some (.fz, .int (i : Nat)), y8, y9, y10, none] := by
  have hi : i < g.length := (List.getElem?_eq_some_iff.mp hx).1
  have q : prSubQ [.tup (g.map nD), .int (i : Nat)] = some (false, .int (x : Nat)) := q_tup (at_nat hx)
  have e : ((x : Nat) : Int) + (p : Nat) = ((x + p : Nat) : Int) := by omega
  have hnn := nin_tup (x + p) g
  rw [h] at hnn
  have hc := comp11 A0 A1 A2 (some (.fz, dcD fd)) (some (.fz, .int (p : Nat))) (some (.ow, dcD acc)) A9 A10 i x (x + p) g hg hx
  have hlen : prLenQ [.lst ((g.filter fun o => decide (x < o) && decide (o < x + p)).map nD)] = some (false, .int ((cnt x (x + p) g : Nat) : Int)) := by rw [l_lst, List.length_map, cnt_eq]
  have s1 : cutA (g.map nD) none (some ((i : Nat) : Int)) = (g.take i).map nD := by rw [cut_to, List.map_take]
  have s3 : cutA (g.map nD) (some ((i : Int) + 1)) none = (g.drop (i + 1)).map nD := by
    have := cut_from (g.map nD) (i + 1)
    rw [List.map_drop, ← this]; congr 1
  have t2 : prAdd [.tup ((g.take i).map nD), .tup [.int ((x + p : Nat) : Int)]] = some (false, .tup ((g.take i).map nD ++ [.int ((x + p : Nat) : Int)])) := t_add (by simp; omega)
  have t3 : prAdd [.tup ((g.take i).map nD ++ [.int ((x + p : Nat) : Int)]), .tup ((g.drop (i + 1)).map nD)] = some (false, .tup (((g.take i ++ [x + p]) ++ g.drop (i + 1)).map nD)) := by
    rw [t_add (by simp; omega)]
    simp [nD]
  have hints : ∀ l : List Nat, intsOf (l.map nD) = some (l.map fun n : Nat => (n : Int)) := fun l => by
    have h : ∀ l : List Int, intsOf (l.map D.int) = some l := fun l => by
      induction l with
      | nil => rfl
      | cons a l ih => rw [List.map_cons]; unfold intsOf; rw [ih]
    rw [← h, List.map_map]; rfl
  have hso : prSortS true [.tup (((g.take i ++ [x + p]) ++ g.drop (i + 1)).map nD)] = some (true, .lst ((insD (x + p) (era i g)).map nD)) := by
    unfold prSortS seqOf
    dsimp only
    rw [hints]
    dsimp only
    rw [← sort_eq hf h hi, List.map_map]
    rfl
  have htp : prTuple [.lst ((insD (x + p) (era i g)).map nD)] = some (false, .tup ((insD (x + p) (era i g)).map nD)) := rfl
  have hmod : prMod [.int ((cnt x (x + p) g : Nat) : Int), .int 2] = some (false, .int (((cnt x (x + p) g : Nat) : Int) % 2)) := i_mod (by decide)
  have hm2 : prMul [.int 2, .int (((cnt x (x + p) g : Nat) : Int) % 2)] = some (false, .int (2 * (((cnt x (x + p) g : Nat) : Int) % 2))) := i_mul (okMul_of' (by decide) (Nat.lt_of_le_of_lt (m := 2) (by omega) (by decide)))
  obtain ⟨v0, hv0⟩ := List.mem_map.mp hgk
  have hlk : prSubQ [dcD fd, .tup (g.map nD)] = some (false, .int (lookN g fd)) := by
    have hvs := valD_some g fd ⟨v0.2, by rw [← hv0.2]; exact hv0.1⟩
    rw [prSubQ_eq]
    unfold prSub' prOr prIx prDIx dcD
    simp [seqOf, dLook, ksOf_nat, hvs]
  have hsm : (lookN g fd).natAbs < 1000000000000 := by
    unfold lookN
    split
    · rename_i kv hkv
      exact hfd kv (List.mem_of_find?_eq_some hkv)
    · decide
  have hm3 : prMul [.int (lookN g fd), .int (1 - 2 * (((cnt x (x + p) g : Nat) : Int) % 2))] = some (false, .int (lookN g fd * (1 - 2 * (((cnt x (x + p) g : Nat) : Int) % 2)))) := i_mul (okMul_of' (Nat.lt_of_lt_of_le hsm (by decide)) (Nat.lt_of_le_of_lt (m := 2) (by omega) (by decide)))
  have hsg : lookN g fd * (1 - 2 * (((cnt x (x + p) g : Nat) : Int) % 2)) = sg (cnt x (x + p) g) (lookN g fd) := by
    unfold sg
    by_cases h2 : cnt x (x + p) g % 2 = 0
    · have : ((cnt x (x + p) g : Nat) : Int) % 2 = 0 := by omega
      rw [this, h2]; simp
    · have : ((cnt x (x + p) g : Nat) : Int) % 2 = 1 := by omega
      have h3 : cnt x (x + p) g % 2 = 1 := by omega
      rw [this, h3]
      show lookN g fd * (-1) = -lookN g fd
      omega
  rw [hsg] at hm3
  obtain ⟨o, ho, hog⟩ := dLook_nat acc (insD (x + p) (era i g))
  have hset := muSet_nat (k := insD (x + p) (era i g)) (v := sg (cnt x (x + p) g) (lookN g fd)) hn hl
  have htup : prTup [.int ((x + p : Nat) : Int)] = some (false, .tup [.int ((x + p : Nat) : Int)]) := rfl
  have hint : ∀ z : Int, prInt [.int z] = some (false, .int z) := fun _ => rfl
  generalize hA : addN (insD (x + p) (era i g)) (sg (cnt x (x + p) g) (lookN g fd)) acc = acc' at *
  generalize hK : (insD (x + p) (era i g)).map nD = KK at *
  generalize lookN (insD (x + p) (era i g)) acc = lk at *
  clear hA hK
  generalize sg (cnt x (x + p) g) (lookN g fd) = s at *
  generalize lookN g fd = v at *
  generalize (((g.take i ++ [x + p]) ++ g.drop (i + 1)).map nD) = T4 at *
  generalize ((g.take i).map nD) = T1 at *
  generalize ((g.drop (i + 1)).map nD) = T3 at *
  generalize (g.filter fun o => decide (x < o) && decide (o < x + p)).map nD = F at *
  generalize ((cnt x (x + p) g : Nat) : Int) = c at *
  generalize g.map nD = T at *
  generalize ((x + p : Nat) : Int) = put at *
  obtain ⟨L, hL⟩ : ∃ L, dcD acc = .dT L := ⟨_, rfl⟩
  obtain ⟨M, hM⟩ : ∃ L, dcD fd = .dT L := ⟨_, rfl⟩
  rw [hM] at hlk hc ⊢
  rw [hL] at ho hset hc ⊢
  refine ⟨some (.fz, .int put), some (.fz, .int c), some (.fz, .tup KK), ?_⟩
  have hb : bodyI = (sSeq (sAsgR (.n 8) (eP (p2 prAdd (qP (p2 prSubQ (qR 6) (qR 7))) (qR 4))))
    (sIf (tPf (p2 prNin (qR 8) (qR 6))) (sSeq (sAsgR (.n 9) (fPrim prLenQ [(.e cmp11)]))
    (sSeq (sAsgR (.n 10) (fPrim prTuple [(.e (fPrim (prSortS true) [(.e (fPrim prAdd [(.e (fPrim prAdd [(.e (fSl (.v 6) none (some (.v 7)))), (.e (fPrimV prTup [(.e (eVarR 8))]))])), (.e (fSl (.v 6) (some (.e (eP (p2 prAdd (qR 7) (qC (.int 1)))))) none))]))]))]))
    (sSet 5 (.v 10) (fPrim prAdd [(.e (fGet (.v 5) (.v 10) (eC (.int 0)))), (.e (eP (p2 prMul (qP (p2 prSubQ (qR 3) (qR 6))) (qP (p2 prSub (qC (.int 1)) (qP (p2 prMul (qC (.int 2)) (qP (p2 prMod (qP (p1 prInt (qR 9))) (qC (.int 2)))))))))))])))) sNx)) := rfl
  rw [hb]
  generalize cmp11 = cm at *
  simp [-List.append_assoc, seqOf, sSeq, sAsgR, sIf, sSet, sRet, sNx, sDrop, evO, evOs, vals, getAll, Hd.get, eP, eC, p1, p2, qP, qR, qC, gtR_eq, gt, nthR_eq, setR_eq, eVarR, asgR, tPf, tAn, tOo, tNo, tTr, tTv, truD, fIf, fPrim, fPrimV, fSl, evP, slD, restR, wipeR, fCall, fCallI, fMake, fAndV, fNotV, i_lt, i_le, i_gt, i_ge, i_add, i_sub, i_eq, i_ne, q, e, hnn, hc, hlen, s1, s3, htup, t2, t3, hso, htp, hint, hmod, hm2, hm3, hlk, fGet, fGet.fGet', ho, hog, hset]
theorem stepF_fold (p : Nat) (g : List Nat) (v : Int) : ∀ (l : List Nat) (a : Nat) (acc : Dc), stepF p g v a l acc = (en a l).foldl (fun acc b => bif mem (b.2 + p) g then acc else addK (insD (b.2 + p) (era b.1 g)) (sg (cnt b.2 (b.2 + p) g) v) acc) acc
  | [], _, _ => rfl
  | x :: l, a, acc => by
    show stepF p g v (a + 1) l _ = _
    rw [stepF_fold p g v l]; rfl
theorem en_fst : ∀ (l : List Nat) (k : Nat), (en k l).map (fun b => nD b.1) = (List.range' k l.length).map iD
  | [], _ => rfl
  | x :: l, k => by unfold en; rw [List.map_cons, List.length_cons, List.range'_succ, List.map_cons, en_fst l (k + 1)]; rfl
theorem en_len : ∀ (l : List Nat) (k : Nat), (en k l).length = l.length
  | [], _ => rfl
  | x :: l, k => by unfold en; rw [List.length_cons, List.length_cons, en_len l (k + 1)]
theorem fall_put {g : List Nat} {x p i : Nat} (hf : Fall g) (h : mem (x + p) g = false) : Fall (insD (x + p) (era i g)) := by
  rw [era_eq]
  have hsub := List.eraseIdx_sublist g i
  refine insD_fall (List.Pairwise.sublist hsub hf) fun hx => ?_
  rw [(mem_iff (x + p) g).mpr (hsub.subset hx)] at h
  cases h
theorem len_put {g : List Nat} {x p i : Nat} (hi : i < g.length) : (insD (x + p) (era i g)).length = g.length := by
  rw [insD_len, era_eq, List.length_eraseIdx, if_pos hi]; omega
/-- keys of a dict: falling, of one length -/
def KOk (far s : Nat) (d : Dc) : Prop := ∀ k ∈ keysN d, Fall k ∧ k.length = far ∧ k.sum = s
theorem sum_put {g : List Nat} {x p i : Nat} (h : g[i]? = some x) : (insD (x + p) (era i g)).sum = g.sum + p := by
  have hi := (List.getElem?_eq_some_iff.mp h).1
  have hx : g[i] = x := (List.getElem?_eq_some_iff.mp h).2
  have h1 := (insD_perm (x + p) (era i g)).sum_nat
  have h2 : ([g[i]] ++ g.eraseIdx i).Perm g := by
    have : ∀ (l : List Nat) (i : Nat) (h : i < l.length), ([l[i]] ++ l.eraseIdx i).Perm l := by
      intro l
      induction l with
      | nil => intro i h; simp at h
      | cons a l ih =>
        intro i h
        cases i with
        | zero => exact List.Perm.refl _
        | succ i =>
          have h' : i < l.length := by simpa using h
          rw [List.eraseIdx_cons_succ]
          show (l[i] :: a :: l.eraseIdx i).Perm (a :: l)
          exact (List.Perm.swap a l[i] _).trans ((ih i h').cons a)
    exact this g i hi
  have h3 := h2.sum_nat
  rw [List.sum_append, hx] at h3
  rw [h1, List.sum_cons, era_eq]
  simp at h3
  omega
theorem KOk.add {far s : Nat} {d : Dc} {k : List Nat} {v : Int} (h : KOk far s d) (hk : Fall k ∧ k.length = far ∧ k.sum = s) : KOk far s (addN k v d) := fun k' hk' => by
  rcases addN_mem hk' with e | e
  · subst e; exact hk
  · exact h k' e
def F7 (y : Sl) : Prop := y = none ∨ ∃ d, y = some (.fz, d)
theorem loopI (A0 A1 A2 : Sl) (p : Nat) (g : List Nat) (fd acc : Dc) (hg : g.length ≤ 12) (hf : Fall g) (hfd : ∀ kv ∈ fd, kv.2.natAbs < 1000000000000) (hgk : g ∈ keysN fd) (hn : (keysN acc).Nodup) (hl : acc.length + g.length < 100000) (hk : KOk g.length (g.sum + p) acc) (x7 x8 x9 x10 : Sl) (h7 : F7 x7) : ∃ y7 y8 y9 y10,
    loopR (.n 7) bodyI ((List.range g.length).map iD) [A0, A1, A2, some (.fz, dcD fd), some (.fz, .int (p : Nat)), some (.ow, dcD acc), some (.fz, .tup (g.map nD)), x7, x8, x9, x10, none] =
      .nx [A0, A1, A2, some (.fz, dcD fd), some (.fz, .int (p : Nat)), some (.ow, dcD (stepF p g (lookN g fd) 0 g acc)), some (.fz, .tup (g.map nD)), y7, y8, y9, y10, none] ∧
      (keysN (stepF p g (lookN g fd) 0 g acc)).Nodup ∧ (stepF p g (lookN g fd) 0 g acc).length ≤ acc.length + g.length ∧ KOk g.length (g.sum + p) (stepF p g (lookN g fd) 0 g acc) ∧ F7 y7 := by
  obtain ⟨ρ', h1, y7, y8, y9, y10, h2, h3, h4, h5, h6⟩ := loopR_inv (t := .n 7) (body := bodyI) (fun b : Nat × Nat => nD b.1) (fun (acc : Dc) (b : Nat × Nat) => bif mem (b.2 + p) g then acc else addK (insD (b.2 + p) (era b.1 g)) (sg (cnt b.2 (b.2 + p) g) (lookN g fd)) acc)
    (fun i ac ρ => ∃ y7 y8 y9 y10, ρ = [A0, A1, A2, some (.fz, dcD fd), some (.fz, .int (p : Nat)), some (.ow, dcD ac), some (.fz, .tup (g.map nD)), y7, y8, y9, y10, none] ∧ (keysN ac).Nodup ∧ ac.length ≤ acc.length + i ∧ KOk g.length (g.sum + p) ac ∧ F7 y7) (en 0 g)
    (fun i b hb ac ρ ⟨y7, y8, y9, y10, e, hn, hl1, hk, _⟩ => by
      obtain ⟨a, x⟩ := b
      obtain ⟨ha, hgx⟩ := en_at g 0 i (a, x) hb
      have hai : a = i := by simpa using ha
      have hil : i < g.length := (List.getElem?_eq_some_iff.mp hgx).1
      have hgx' : g[a]? = some x := by rw [hai]; exact hgx
      subst e
      refine ⟨[A0, A1, A2, some (.fz, dcD fd), some (.fz, .int (p : Nat)), some (.ow, dcD ac), some (.fz, .tup (g.map nD)), some (.fz, .int (a : Nat)), y8, y9, y10, none], ?_⟩
      cases hb : mem (x + p) g with
      | true =>
        obtain ⟨y, hy⟩ := bodyI_skip A0 A1 A2 (some (.fz, dcD fd)) (some (.ow, dcD ac)) y8 y9 y10 p a x g hgx' hb
        exact ⟨_, rfl, .inl hy, some (.fz, .int (a : Nat)), y, y9, y10, rfl, hn, (by show ac.length ≤ _; omega), hk, .inr ⟨_, rfl⟩⟩
      | false =>
        obtain ⟨z8, z9, z10, hy⟩ := bodyI_put A0 A1 A2 y8 y9 y10 p a x g fd ac hgx' hb (by omega) hf hfd hgk hn (by omega)
        refine ⟨_, rfl, .inl hy, some (.fz, .int (a : Nat)), z8, z9, z10, ?_, ?_, ?_, ?_, .inr ⟨_, rfl⟩⟩
        · dsimp only [cond_false]; rw [addK_eq]
        · dsimp only [cond_false]; rw [addK_eq]; exact addN_nodup hn
        · dsimp only [cond_false]; rw [addK_eq]
          have := addN_len (insD (x + p) (era a g)) (sg (cnt x (x + p) g) (lookN g fd)) ac
          omega
        · dsimp only [cond_false]; rw [addK_eq]
          exact hk.add ⟨fall_put hf hb, len_put (by omega), sum_put hgx'⟩) acc _ ⟨x7, x8, x9, x10, rfl, hn, Nat.le_refl _, hk, h7⟩
  rw [← stepF_fold] at h2 h3 h4 h5
  rw [en_len] at h4
  rw [en_fst, ← List.range_eq_range'] at h1
  subst h2
  exact ⟨y7, y8, y9, y10, h1, h3, h4, h5, h6⟩
abbrev bodyK : SF := (sForR (.n 7) (iRng [(.v 2)]) bodyI)
theorem loopK (A0 A1 : Sl) (p far s : Nat) (fd : Dc) (hfar : far ≤ 12) (ok : OkD fd) (hk : KOk far s fd) (x6 x7 x8 x9 x10 : Sl) (h7 : F7 x7) : ∃ y6 y7 y8 y9 y10,
    loopR (.n 6) bodyK (fd.map fun kv => .tup (kv.1.map nD)) [A0, A1, some (.fz, .int (far : Nat)), some (.fz, dcD fd), some (.fz, .int (p : Nat)), some (.ow, dcD []), x6, x7, x8, x9, x10, none] =
      .nx [A0, A1, some (.fz, .int (far : Nat)), some (.fz, dcD fd), some (.fz, .int (p : Nat)), some (.ow, dcD (turnF p fd)), y6, y7, y8, y9, y10, none] ∧ KOk far (s + p) (turnF p fd) ∧ F7 y7 ∧ (keysN (turnF p fd)).Nodup := by
  obtain ⟨ρ', h1, y6, y7, y8, y9, y10, h2, h3, h4, h5, h6⟩ := loopR_inv (t := .n 6) (body := bodyK) (fun kv : List Nat × Int => D.tup (kv.1.map nD)) (fun (acc : Dc) kv => stepF p kv.1 (lookD kv.1 fd) 0 kv.1 acc)
    (fun i ac ρ => ∃ y6 y7 y8 y9 y10, ρ = [A0, A1, some (.fz, .int (far : Nat)), some (.fz, dcD fd), some (.fz, .int (p : Nat)), some (.ow, dcD ac), y6, y7, y8, y9, y10, none] ∧ (keysN ac).Nodup ∧ ac.length ≤ 12 * i ∧ KOk far (s + p) ac ∧ F7 y7) fd
    (fun i b hb ac ρ ⟨y6, y7, y8, y9, y10, e, hn, hl, hk', h7⟩ => by
      obtain ⟨g, v⟩ := b
      have hgm : g ∈ keysN fd := List.mem_map.mpr ⟨(g, v), List.mem_of_getElem? hb, rfl⟩
      obtain ⟨hgf, hgl, hgs⟩ := hk g hgm
      have hi : i < fd.length := (List.getElem?_eq_some_iff.mp hb).1
      have hfew := ok.few
      subst e
      obtain ⟨z7, z8, z9, z10, e1, e2, e3, e4, e5⟩ := loopI A0 A1 (some (.fz, .int (far : Nat))) p g fd ac (by omega) hgf ok.sm hgm hn (by omega) (by rw [hgl, hgs]; exact hk') y7 y8 y9 y10 h7
      rw [← lookD_eq] at e1 e2 e3 e4
      rw [hgl] at e1 e4
      rw [hgs] at e4
      refine ⟨[A0, A1, some (.fz, .int (far : Nat)), some (.fz, dcD fd), some (.fz, .int (p : Nat)), some (.ow, dcD ac), some (.fz, .tup (g.map nD)), y7, y8, y9, y10, none], _, rfl, .inl ?_, some (.fz, .tup (g.map nD)), z7, z8, z9, z10, rfl, e2, (by show (stepF p g (lookD g fd) 0 g ac).length ≤ _; omega), e4, e5⟩
      have hE := iRng_nat (o := .v 2) (ρ := [A0, A1, some (.fz, .int (far : Nat)), some (.fz, dcD fd), some (.fz, .int (p : Nat)), some (.ow, dcD ac), some (.fz, .tup (g.map nD)), y7, y8, y9, y10, none]) (h := .sl 2) (n := far) rfl rfl (by omega)
      show sForR (.n 7) (iRng [(.v 2)]) bodyI _ = _
      unfold sForR
      rw [hE]
      exact e1) [] _ ⟨x6, x7, x8, x9, x10, rfl, List.nodup_nil, Nat.le_refl _, (fun k h => by cases h), h7⟩
  subst h2
  exact ⟨y6, y7, y8, y9, y10, h1, h5, h6, h3⟩
abbrev bodyT : SF := (sSeq (sAsgR (.n 5) eD0T)
    (sSeq (sForKR (.n 6) 3 bodyK)
    (sAsgR (.n 3) (eP (p1 prDict (qR 5))))))
theorem loopT (A0 A1 : Sl) (far : Nat) (hfar : far ≤ 12) : ∀ (mu : List Nat) (e : Nat) (fd d : Dc) (x4 x5 x6 x7 x8 x9 x10 : Sl), F7 x7 → OkD fd → KOk far (e + tri far) fd → e + mu.sum ≤ 12 → runF mu fd = some d →
    ∃ y4 y5 y6 y7 y8 y9 y10, F7 y7 ∧ loopR (.n 4) bodyT (mu.map nD) [A0, A1, some (.fz, .int (far : Nat)), some (.ow, dcD fd), x4, x5, x6, x7, x8, x9, x10, none] = .nx [A0, A1, some (.fz, .int (far : Nat)), some (.ow, dcD d), y4, y5, y6, y7, y8, y9, y10, none] := by
  intro mu
  induction mu with
  | nil =>
    intro e fd d x4 x5 x6 x7 x8 x9 x10 h7 _ _ _ hr
    cases hr
    exact ⟨x4, x5, x6, x7, x8, x9, x10, h7, rfl⟩
  | cons p mu ih =>
    intro e fd d x4 x5 x6 x7 x8 x9 x10 h7 ok hk hsum hr
    rw [List.sum_cons] at hsum
    have hr' : (bif okD (turnF p fd) then runF mu (turnF p fd) else none) = some d := hr
    cases hw : okD (turnF p fd) with
    | false => rw [hw] at hr'; cases hr'
    | true =>
      rw [hw] at hr'
      obtain ⟨z6, z7, z8, z9, z10, e1, e3, e5, e6⟩ := loopK A0 A1 p far (e + tri far) fd hfar ok hk x6 x7 x8 x9 x10 h7
      have ok' := okD_ok hw
      have e3' : KOk far (e + p + tri far) (turnF p fd) := by rw [show e + p + tri far = e + tri far + p from by omega]; exact e3
      obtain ⟨y4, y5, y6, y7, y8, y9, y10, h7', hL⟩ := ih (e + p) (turnF p fd) d (some (.fz, .int (p : Nat))) (some (.ow, dcD (turnF p fd))) z6 z7 z8 z9 z10 e5 ok' e3' (by omega) hr'
      refine ⟨y4, y5, y6, y7, y8, y9, y10, h7', ?_⟩
      rw [List.map_cons, loopR_cons, ← hL]
      have hp : keysD (dcD fd) = some (fd.map fun kv => .tup (kv.1.map nD)) := by
        unfold keysD dcD dcK
        dsimp only
        rw [List.map_map]
        congr 1
        apply List.map_congr_left
        intro kv _
        show D.tup ((kv.1.map kI).map keyD) = _
        rw [keyD_nat]
      have hdi : prDict [dcD (turnF p fd)] = some (true, dcD (turnF p fd)) := by
        unfold prDict dcD
        dsimp only
        rw [if_pos (okH_of (by omega) (by omega) e6 e3')]
      have h0 : dcD [] = .dT [] := rfl
      rw [h0] at e1
      clear hL ih
      have hb : bodyT = (sSeq (sAsgR (.n 5) eD0T) (sSeq (sForKR (.n 6) 3 bodyK) (sAsgR (.n 3) (eP (p1 prDict (qR 5)))))) := rfl
      rw [hb]
      generalize bodyK = bk at *
      generalize (fd.map fun kv => D.tup (kv.1.map nD)) = PP at *
      generalize dcD fd = X at *
      generalize dcD (turnF p fd) = Y at *
      simp [seqOf, sSeq, sAsgR, sIf, sSet, sRet, sNx, sDrop, evO, evOs, vals, getAll, Hd.get, eP, eC, p1, p2, qP, qR, qC, gtR_eq, gt, nthR_eq, setR_eq, eVarR, asgR, tPf, tAn, tOo, tNo, tTr, tTv, truD, fIf, fPrim, fPrimV, fSl, evP, slD, restR, wipeR, fCall, fCallI, fMake, fAndV, fNotV, i_lt, i_le, i_gt, i_ge, i_add, i_sub, i_eq, i_ne, eD0T, sForKR, hp, noX, e1, nD, hdi]
theorem stair_eq : ∀ n : Nat, (List.range n).map (fun i => n - 1 - i) = stair n
  | 0 => rfl
  | n + 1 => by
    rw [List.range_succ_eq_map, List.map_cons, List.map_map]
    have : (fun i => n + 1 - 1 - i) ∘ Nat.succ = fun i => n - 1 - i := funext fun i => by show n + 1 - 1 - (i + 1) = _; omega
    rw [this, stair_eq n]
    show (n + 1 - 1 - 0) :: stair n = n :: stair n
    rw [show n + 1 - 1 - 0 = n from by omega]
theorem stair_sum : ∀ n : Nat, (stair n).sum = tri n
  | 0 => rfl
  | n + 1 => by show (n :: stair n).sum = tri n + n; rw [List.sum_cons, stair_sum n]; omega
theorem stair_fall : ∀ n : Nat, Fall (stair n) ∧ (stair n).length = n ∧ ∀ x ∈ stair n, x < n
  | 0 => ⟨List.Pairwise.nil, rfl, fun _ h => by cases h⟩
  | n + 1 => by
    obtain ⟨a, b, c⟩ := stair_fall n
    refine ⟨List.pairwise_cons.mpr ⟨fun x hx => c x hx, a⟩, by show (n :: stair n).length = _; rw [List.length_cons, b], fun x hx => ?_⟩
    rcases List.mem_cons.mp hx with e | h
    · omega
    · have := c x h; omega
theorem deg_range (S0 : List Nat) (n : Nat) : ∀ (S : List Nat) (k : Nat), (∀ i, S[i]? = S0[k + i]?) → degN n k S = (List.range' k S.length).map fun i => S0.getD i 0 + n - 1 - i
  | [], _, _ => rfl
  | s :: S, k, h => by
    have h0 : S0[k]? = some s := by have := h 0; simpa using this.symm
    unfold degN
    rw [List.length_cons, List.range'_succ, List.map_cons, deg_range S0 n S (k + 1) fun i => by
      have := h (i + 1)
      rw [List.getElem?_cons_succ] at this
      rw [this]; congr 1; omega]
    congr 1
    rw [List.getD_eq_getElem?_getD, h0]; rfl
theorem target_eq (S : List Nat) : target S = (List.range (farN S)).map fun i => S.getD i 0 + farN S - 1 - i := by
  cases S with
  | nil => rfl
  | cons s S =>
    have hf : farN (s :: S) = (s :: S).length := by unfold farN; rw [List.length_cons]; omega
    rw [hf]
    show degN (s :: S).length 0 (s :: S) = _
    rw [deg_range (s :: S) _ (s :: S) 0 fun i => by rw [Nat.zero_add], List.range_eq_range']
theorem law_trace_eq (S mu : List Nat) (d : Dc) (hS : S.length ≤ 12) (hm : mu.length ≤ 1000) (hsum : mu.sum ≤ 12) (h : runF mu [(stair (farN S), 1)] = some d) (h0 : OkD [(stair (farN S), 1)]) : m_law_trace [tup S, tup mu] = .ok false (.int (lookD (target S) d)) .non := by
  have hfar : farN S ≤ 12 := by unfold farN; omega
  have hln : prLenQ [tup S] = some (false, .int (S.length : Nat)) := by unfold tup; rw [l_tup, List.length_map]
  have hmax : prMax2 [.int 1, .int (S.length : Nat)] = some (false, .int (farN S : Nat)) := by
    have e : (farN S : Int) = max 1 ((S.length : Nat) : Int) := by unfold farN; omega
    rw [e]
    show some (false, D.int (if ((S.length : Nat) : Int) > 1 then ((S.length : Nat) : Int) else 1)) = _
    by_cases h : ((S.length : Nat) : Int) > 1
    · rw [if_pos h]; congr 3; omega
    · rw [if_neg h]; congr 3; omega
  have hq : ∀ i, i < S.length → prSubQ [tup S, .int (i : Nat)] = some (false, .int (S.getD i 0 : Nat)) := fun i hi => by
    have hs : S[i]? = some (S.getD i 0) := by rw [List.getD_eq_getElem?_getD, List.getElem?_eq_getElem hi]; rfl
    exact q_tup (at_nat hs)
  obtain ⟨y4, y5, y6, y7, y8, y9, y10, h7, hL⟩ := loopT (some (.fz, tup S)) (some (.fz, tup mu)) (farN S) hfar mu 0 [(stair (farN S), 1)] d none none none none none none none (.inl rfl) h0 (fun k hk => by
    have : k = stair (farN S) := by simpa [keysN] using hk
    subst this
    exact ⟨(stair_fall _).1, (stair_fall _).2.1, by rw [stair_sum]; omega⟩) (by omega) h
  have hc1 : fLcR [7] (iRng [(.v 2)]) (.n 7) tYe (eP (p2 prSub (qP (p2 prSub (qR 2) (qC (.int 1)))) (qR 7))) [some (.fz, tup S), some (.fz, tup mu), some (.fz, .int (farN S : Nat)), none, none, none, none, none, none, none, none, none] =
      .ok true (.lst ((stair (farN S)).map nD)) [some (.fz, tup S), some (.fz, tup mu), some (.fz, .int (farN S : Nat)), none, none, none, none, none, none, none, none, none] := by
    rw [← stair_eq]
    have := fLcR_same (vs := [7]) (F := iRng [(.v 2)]) (t := .n 7) (c := tYe) (el := (eP (p2 prSub (qP (p2 prSub (qR 2) (qC (.int 1)))) (qR 7)))) iD (fun _ => true) (fun i => nD (farN S - 1 - i)) (xs := List.range (farN S)) (ρ := [some (.fz, tup S), some (.fz, tup mu), some (.fz, .int (farN S : Nat)), none, none, none, none, none, none, none, none, none]) (iRng_nat (h := .sl 2) rfl rfl (by omega)) rfl (by rw [List.length_range]; omega) rfl rfl (fun i hi => ⟨_, rfl, rfl, fun _ => ⟨false, by
      have hi := List.mem_range.mp hi
      have e : ((farN S : Nat) : Int) - 1 - (i : Nat) = ((farN S - 1 - i : Nat) : Int) := by omega
      generalize tup S = U
      generalize tup mu = V
      simp [seqOf, sSeq, sAsgR, sIf, sSet, sRet, sNx, sDrop, evO, evOs, vals, getAll, Hd.get, eP, eC, p1, p2, qP, qR, qC, gtR_eq, gt, nthR_eq, setR_eq, eVarR, asgR, tPf, tAn, tOo, tNo, tTr, tTv, truD, fIf, fPrim, fPrimV, fSl, evP, slD, restR, wipeR, fCall, fCallI, fMake, fAndV, fNotV, i_lt, i_le, i_gt, i_ge, i_add, i_sub, i_eq, i_ne, iD, nD, e]⟩, rfl⟩)
    rw [this, List.filter_eq_self.mpr fun _ _ => rfl, List.map_map]
    rfl
  have hc2 : ∀ fl : Fl, fLcR [7] (iRng [(.v 2)]) (.n 7) tYe (fPrim prSub [(.e (fPrim prSub [(.e (fPrim prAdd [(.e (fIf (tPf (p2 prLt (qR 7) (qP (p1 prLenQ (qR 0))))) (eP (p2 prSubQ (qR 0) (qR 7))) (eC (.int 0)))), (.v 2)])), (.e (eC (.int 1)))])), (.v 7)]) [some (.fz, tup S), some (.fz, tup mu), some (.fz, .int (farN S : Nat)), some (.ow, dcD d), y4, y5, y6, y7, y8, y9, y10, none] =
      .ok true (.lst ((target S).map nD)) [some (.fz, tup S), some (.fz, tup mu), some (.fz, .int (farN S : Nat)), some (.ow, dcD d), y4, y5, y6, y7, y8, y9, y10, none] := fun fl => by
    rw [target_eq]
    have := fLcR_same (vs := [7]) (F := iRng [(.v 2)]) (t := .n 7) (c := tYe) (el := (fPrim prSub [(.e (fPrim prSub [(.e (fPrim prAdd [(.e (fIf (tPf (p2 prLt (qR 7) (qP (p1 prLenQ (qR 0))))) (eP (p2 prSubQ (qR 0) (qR 7))) (eC (.int 0)))), (.v 2)])), (.e (eC (.int 1)))])), (.v 7)])) iD (fun _ => true) (fun i => nD (S.getD i 0 + farN S - 1 - i)) (xs := List.range (farN S)) (ρ := [some (.fz, tup S), some (.fz, tup mu), some (.fz, .int (farN S : Nat)), some (.ow, dcD d), y4, y5, y6, y7, y8, y9, y10, none]) (ρ0 := [some (.fz, tup S), some (.fz, tup mu), some (.fz, .int (farN S : Nat)), some (.ow, dcD d), y4, y5, y6, none, y8, y9, y10, none]) (iRng_nat (h := .sl 2) rfl rfl (by omega)) (by rcases h7 with h | ⟨_, h⟩ <;> (rw [h]; rfl)) (by rw [List.length_range]; omega) rfl (by rcases h7 with h | ⟨_, h⟩ <;> (rw [h]; rfl)) (fun i hi => ⟨_, rfl, rfl, fun _ => ⟨false, by
      have hi := List.mem_range.mp hi
      have e : ((S.getD i 0 : Nat) : Int) + ((farN S : Nat) : Int) - 1 - (i : Nat) = ((S.getD i 0 + farN S - 1 - i : Nat) : Int) := by omega
      have hqi := hq i
      have hgz : ¬ i < S.length → S.getD i 0 = 0 := fun hh => by rw [List.getD_eq_getElem?_getD, List.getElem?_eq_none_iff.mpr (by omega)]; rfl
      generalize tup S = U at *
      generalize tup mu = V at *
      generalize dcD d = W at *
      by_cases hh : i < S.length
      · have hh' : ((i : Nat) : Int) < (S.length : Nat) := by omega
        have q := hqi hh
        generalize S.getD i 0 = s at *
        simp [seqOf, sSeq, sAsgR, sIf, sSet, sRet, sNx, sDrop, evO, evOs, vals, getAll, Hd.get, eP, eC, p1, p2, qP, qR, qC, gtR_eq, gt, nthR_eq, setR_eq, eVarR, asgR, tPf, tAn, tOo, tNo, tTr, tTv, truD, fIf, fPrim, fPrimV, fSl, evP, slD, restR, wipeR, fCall, fCallI, fMake, fAndV, fNotV, i_lt, i_le, i_gt, i_ge, i_add, i_sub, i_eq, i_ne, iD, nD, hln, hh, q, e]
      · rw [hgz hh] at e ⊢
        have e' : ((farN S : Nat) : Int) - 1 - (i : Nat) = ((0 + farN S - 1 - i : Nat) : Int) := by omega
        simp only [Nat.zero_add] at e'
        simp [seqOf, sSeq, sAsgR, sIf, sSet, sRet, sNx, sDrop, evO, evOs, vals, getAll, Hd.get, eP, eC, p1, p2, qP, qR, qC, gtR_eq, gt, nthR_eq, setR_eq, eVarR, asgR, tPf, tAn, tOo, tNo, tTr, tTv, truD, fIf, fPrim, fPrimV, fSl, evP, slD, restR, wipeR, fCall, fCallI, fMake, fAndV, fNotV, i_lt, i_le, i_gt, i_ge, i_add, i_sub, i_eq, i_ne, iD, nD, hln, hh, e']⟩, rfl⟩)
    rw [this, List.filter_eq_self.mpr fun _ _ => rfl, List.map_map]
    rfl
  have hk := ksOf_nat (stair (farN S))
  have hX : dcD [(stair (farN S), 1)] = .dT [((stair (farN S)).map kI, .int 1)] := rfl
  obtain ⟨o, ho, hog⟩ := dLook_nat d (target S)
  rw [← lookD_eq] at hog
  rw [hX] at hL
  unfold m_law_trace mF w_law_trace
  have hb : bodyT = (sSeq (sAsgR (.n 5) eD0T) (sSeq (sForKR (.n 6) 3 bodyK) (sAsgR (.n 3) (eP (p1 prDict (qR 5)))))) := rfl
  show finF ((sSeq (sAsgR (.n 2) (eP (p2 prMax2 (qC (.int 1)) (qP (p1 prLenQ (qR 0))))))
    (sSeq (sAsgR (.n 3) (fDisp1 (fPrim prTuple [(.e (fLcR [7] (iRng [(.v 2)]) (.n 7) tYe (eP (p2 prSub (qP (p2 prSub (qR 2) (qC (.int 1)))) (qR 7)))))]) (eC (.int 1))))
    (sSeq (sForR (.n 4) (iSeq (eVarR 1)) bodyT)
    (sRet (fGet (.v 3) (.e (fPrim prTuple [(.e (fLcR [7] (iRng [(.v 2)]) (.n 7) tYe (fPrim prSub [(.e (fPrim prSub [(.e (fPrim prAdd [(.e (fIf (tPf (p2 prLt (qR 7) (qP (p1 prLenQ (qR 0))))) (eP (p2 prSubQ (qR 0) (qR 7))) (eC (.int 0)))), (.v 2)])), (.e (eC (.int 1)))])), (.v 7)])))])) (eC (.int 0))))))) (startV 12 [tup S, tup mu])) = _
  have hc2 := hc2 .fz
  have ht : tup mu = .tup (mu.map nD) := rfl
  generalize (fPrim prSub [(.e (fPrim prSub [(.e (fPrim prAdd [(.e (fIf (tPf (p2 prLt (qR 7) (qP (p1 prLenQ (qR 0))))) (eP (p2 prSubQ (qR 0) (qR 7))) (eC (.int 0)))), (.v 2)])), (.e (eC (.int 1)))])), (.v 7)]) = el at *
  obtain ⟨M, hM⟩ : ∃ L, dcD d = .dT L := ⟨_, rfl⟩
  rw [hM] at hc2 hL ho
  rw [ht] at hc1 hc2 hL ⊢
  generalize bodyT = bt at *
  generalize tup S = U at *
  generalize mu.map nD = V at *
  generalize (stair (farN S)).map kI = K at *
  generalize (stair (farN S)).map nD = Z at *
  generalize (target S).map nD = Z2 at *
  simp [startV, seqOf, sSeq, sAsgR, sIf, sSet, sRet, sNx, sDrop, evO, evOs, vals, getAll, Hd.get, eP, eC, p1, p2, qP, qR, qC, gtR_eq, gt, nthR_eq, setR_eq, eVarR, asgR, tPf, tAn, tOo, tNo, tTr, tTv, truD, fIf, fPrim, fPrimV, fSl, evP, slD, restR, wipeR, fCall, fCallI, fMake, fAndV, fNotV, i_lt, i_le, i_gt, i_ge, i_add, i_sub, i_eq, i_ne, hln, hmax, hc1, prTuple, fDisp1, ksD, hk, sForR, iSeq, seqOf, hL, fGet, fGet.fGet', hc2, ho, hog, finF]
end
end Law_k14
/-! part Sh -/
set_option Elab.async false
set_option linter.all false
set_option maxRecDepth 100000
set_option maxHeartbeats 4000000
/-! Sh: jar, pick, mixed, shapes passed in their forms (k14) -/
namespace Law_k14
open PySem L2 Pf N14
noncomputable section
theorem JarOk.mono {N M : Nat} {j : D} (h : JarOk N j) (k : N ≤ M) : JarOk M j := by
  obtain ⟨cs, p, c, l, st, n, e, hl, h0, h1, h2, h3⟩ := h
  exact ⟨cs, p, c, l, st, n, e, hl, h0, h1, h2, by omega⟩
abbrev bodyJ : SF := (sAsgR (.n 1) (eP (p2 prMod (qP (p1 prInt (qP (p2 prAdd (qP (p2 prAdd (qP (p2 prMul (qR 1) (qC (.int 48017)))) (qP (p2 prMod (qP (p1 prInt (qR 2))) (qC (.int 2147483549)))))) (qC (.int 1709)))))) (qC (.int 2147483579)))))
theorem jar_loop (A : Sl) : ∀ (zs : List Int) (st : Int) (x : Sl), 0 ≤ st → st < 2147483579 → ∃ st' x', loopR (.n 2) bodyJ (zs.map D.int) [A, some (.fz, .int st), x] = .nx [A, some (.fz, .int st'), x'] ∧ 0 ≤ st' ∧ st' < 2147483579 := by
  intro zs
  induction zs with
  | nil => intro st x h0 h1; exact ⟨st, x, rfl, h0, h1⟩
  | cons z zs ih =>
    intro st x h0 h1
    have hm := i_mul (okMul_of (i := st) (j := 48017) (Nat.lt_of_lt_of_le (nat_lt (b := 2147483579) h0 h1) (by decide)) (by decide))
    have hd1 : ∀ a : Int, prMod [.int a, .int 2147483549] = some (false, .int (a % 2147483549)) := fun a => i_mod (by decide)
    have hd2 : ∀ a : Int, prMod [.int a, .int 2147483579] = some (false, .int (a % 2147483579)) := fun a => i_mod (by decide)
    have hi : ∀ a : Int, prInt [.int a] = some (false, .int a) := fun _ => rfl
    obtain ⟨st', x', hx, a, b⟩ := ih ((st * 48017 + z % 2147483549 + 1709) % 2147483579) (some (.fz, .int z)) (Int.emod_nonneg _ (by decide)) (Int.emod_lt_of_pos _ (by decide))
    refine ⟨st', x', ?_, a, b⟩
    rw [List.map_cons, loopR_cons, ← hx]
    simp [asgR, setR_eq, bodyJ, sAsgR, eP, p2, p1, qP, qR, qC, gtR_eq, gt, hm, hd1, hd2, hi, i_add]
theorem cut_map (ns : List Int) (lo hi : Option Int) : cutA (ns.map D.int) lo hi = (cutA ns lo hi).map D.int := by
  unfold cutA
  rw [List.length_map, List.map_take, List.map_drop]
theorem jar_eq (ns : List Int) : ∃ cs st, m_law_jar [.rol (ns.map D.int)] = .ok true (J cs 0 0 0 st 0) .non ∧ 0 ≤ st ∧ st < 2147483579 := by
  have hs : ∀ r : Ve, fSl (.v 0) none (some (.e (eC (.int 63)))) (some (.fz, .rol (ns.map D.int)) :: r) = .ok true (.lst ((cutA ns none (some 63)).map D.int)) (some (.fz, .rol (ns.map D.int)) :: r) := fun r => by
    simp [fSl, evO, evP, eC, Hd.get, slD, cut_map]
  obtain ⟨st, x', hL, h0, h1⟩ := jar_loop (some (.fz, .rol (ns.map D.int))) (cutA ns none (some 63)) 19607 none (by decide) (by decide)
  refine ⟨cutA ns none (some 63), st, ?_, h0, h1⟩
  have hw : w_law_jar = (sSeq (sAsgR (.n 1) (eC (.int 19607)))
    (sSeq (sForR (.n 2) (iSeq (fSl (.v 0) none (some (.e (eC (.int 63)))))) bodyJ)
    (sRet (fPrimV prLst [(.e (fPrim prList [(.e (fSl (.v 0) none (some (.e (eC (.int 63))))))])), (.e (eC (.int 0))), (.e (eC (.int 0))), (.e (eC (.int 0))), (.e (eVarR 1)), (.e (eC (.int 0)))])))) := rfl
  unfold m_law_jar mF J
  rw [hw]
  generalize fSl (.v 0) none (some (.e (eC (.int 63)))) = sl at *
  generalize bodyJ = bod at *
  generalize (cutA ns none (some 63)).map D.int = Z at *
  simp [startV, sSeq, sAsgR, eC, asgR, setR_eq, sForR, iSeq, hs, seqOf, hL, sRet, fPrimV, evOs, evO, fPrim, getAll, Hd.get, prList, vals, eVarR, nthR_eq, prLst, finF]
theorem jar_ok (ns : List Int) : ∃ j, m_law_jar [.rol (ns.map D.int)] = .ok true j .non ∧ JarOk 0 j := by
  obtain ⟨cs, st, h, h0, h1⟩ := jar_eq ns
  exact ⟨_, h, cs, 0, 0, 0, st, 0, rfl, Int.le_refl _, h0, h1, Int.le_refl _, Int.le_refl _⟩
/-- a pick from a list that is not empty -/
theorem pick_ok {N : Nat} {j : D} (h : JarOk N j) (hN : N < 1000000) (ds : List D) (h0 : 0 < ds.length) (h1 : ds.length < 1000000) : ∃ d j', d ∈ ds ∧ m_law_pick [j, .lst ds] = .ok false d j' ∧ JarOk (N + 1) j' := by
  obtain ⟨r, j', hd, r0, r1, hj⟩ := draw_ok (top := (ds.length : Nat)) h (by omega) (by omega) hN
  have hr : r.toNat < ds.length := by omega
  have hx : atI ds r = some ds[r.toNat] := by
    unfold atI ixN
    rw [if_pos r0, if_pos (by omega)]
    simp [hr]
  have q := q_lst hx
  have q' : prSub' [.lst ds, .int r] = some (false, ds[r.toNat]) := by rw [← prSubQ_eq]; exact q
  refine ⟨ds[r.toNat], j', List.getElem_mem _, ?_, hj⟩
  unfold m_law_pick mI w_law_pick
  generalize ds[r.toNat] = d at *
  simp [startI, startV, sRet, fPrim, evOs, evO, fCallI, eP, p1, qR, gtR_eq, gt, l_lst, vals, hd, getAll, Hd.get, prSubQ_eq, q', finI, out0]
theorem er_map {α β : Type} (f : α → β) : ∀ (l : List α) (i : Nat), (l.map f).eraseIdx i = (l.eraseIdx i).map f
  | [], _ => rfl
  | _ :: _, 0 => rfl
  | a :: l, i + 1 => by
    rw [List.map_cons, List.eraseIdx_cons_succ, List.eraseIdx_cons_succ, List.map_cons, er_map f l i]
theorem er_perm {α : Type} : ∀ (l : List α) (i : Nat) (h : i < l.length), ([l[i]] ++ l.eraseIdx i).Perm l
  | [], i, h => by simp at h
  | a :: l, 0, _ => List.Perm.refl _
  | a :: l, i + 1, h => by
    have h' : i < l.length := by simpa using h
    rw [List.eraseIdx_cons_succ]
    show (l[i] :: a :: l.eraseIdx i).Perm (a :: l)
    exact (List.Perm.swap a l[i] _).trans ((er_perm l i h').cons a)
/-! mixed -/
abbrev bodyMx : SF := (sDrop (fMutR isLst muAppend 3 [(.e (fMutR isLst muPop 2 [(.e (fCallI m_law_draw 0 [(.e (eP (p1 prLenQ (qR 2))))]))]))]))
theorem mixed_ok {N : Nat} {j : D} (h : JarOk N j) (l : List Nat) (hl : l.length ≤ 100) (hN : N < 800000) : ∃ (l' : List Nat) (j' : D), l'.Perm l ∧ m_law_mixed [j, .lst (l.map iD)] = .ok true (.lst (l'.map iD)) j' ∧ JarOk (N + l.length) j' := by
  obtain ⟨ρ', h1, left, made, j', x, hj, hp, hle, hρ⟩ := loopR_inv (t := .n 4) (body := bodyMx) iD (fun (_ : Unit) (_ : Nat) => ())
    (fun i _ ρ => ∃ (left made : List Nat) (j : D) (x : Sl), JarOk (N + i) j ∧ (made ++ left).Perm l ∧ left.length + i = l.length ∧ ρ = [some (.bo, j), some (.fz, .lst (l.map iD)), some (.ow, .lst (left.map iD)), some (.ow, .lst (made.map iD)), x]) (List.range l.length)
    (fun i y hy _ ρ ⟨left, made, j, x, hj, hp, hle, hρ⟩ => by
      have hi : i < l.length := by have := (List.getElem?_eq_some_iff.mp hy).1; rw [List.length_range] at this; exact this
      obtain ⟨r, j2, hd, r0, r1, hj2⟩ := draw_ok (top := (left.length : Nat)) hj (by omega) (by omega) (by omega)
      have hr : r.toNat < left.length := by omega
      have hmade : made.length ≤ 100 := by have := hp.length_eq; rw [List.length_append] at this; omega
      subst hρ
      refine ⟨[some (.bo, j), some (.fz, .lst (l.map iD)), some (.ow, .lst (left.map iD)), some (.ow, .lst (made.map iD)), some (.fz, iD y)], [some (.bo, j2), some (.fz, .lst (l.map iD)), some (.ow, .lst ((left.eraseIdx r.toNat).map iD)), some (.ow, .lst ((made ++ [left[r.toNat]]).map iD)), some (.fz, iD y)], rfl, .inl ?_, left.eraseIdx r.toNat, made ++ [left[r.toNat]], j2, _, hj2, ?_, ?_, rfl⟩
      · have hln : prLenQ [.lst (left.map iD)] = some (false, .int (left.length : Nat)) := by rw [l_lst, List.length_map]
        have hpop : muPop (.lst (left.map iD)) [.int r] = some (iD left[r.toNat], .lst ((left.eraseIdx r.toNat).map iD)) := by
          have hz : r = ((r.toNat : Nat) : Int) := by omega
          have hok : okR r = true := by rw [hz]; exact okR_nat (by omega)
          have hix : ixN (left.map iD).length r = some r.toNat := by
            unfold ixN
            rw [if_pos r0, if_pos (by rw [List.length_map]; omega)]
          unfold muPop
          dsimp only
          rw [if_pos hok, hix]
          dsimp only
          rw [List.getElem?_map, List.getElem?_eq_getElem hr]
          simp [er_map]
        have happ : muAppend (.lst (made.map iD)) [iD left[r.toNat]] = some (.non, .lst ((made ++ [left[r.toNat]]).map iD)) := by
          unfold muAppend
          dsimp only
          rw [if_pos (by rw [List.length_map]; omega), List.map_append]
          rfl
        generalize left.map iD = LL at *
        generalize (left.eraseIdx r.toNat).map iD = LE at *
        generalize (made ++ [left[r.toNat]]).map iD = ME at *
        generalize iD left[r.toNat] = z at *
        generalize made.map iD = MM at *
        generalize l.map iD = TT at *
        simp [bodyMx, sDrop, fMutR, nthR_eq, isLst, evOs, evO, fCallI, eP, p1, qR, gtR_eq, gt, hln, vals, hd, hpop, happ, setR_eq]
      · refine List.Perm.trans ?_ hp
        rw [List.append_assoc]
        refine List.Perm.append_left made ?_
        exact er_perm left r.toNat hr
      · rw [List.length_eraseIdx, if_pos hr]; omega) () _ ⟨l, [], j, none, h, List.Perm.refl _, by omega, rfl⟩
  rw [List.length_range] at hj hle
  have hl0 : left = [] := List.length_eq_zero_iff.mp (by omega)
  subst hl0
  rw [List.append_nil] at hp
  refine ⟨made, j', hp, ?_, hj⟩
  subst hρ
  have hln : prLenQ [.lst (l.map iD)] = some (false, .int (l.length : Nat)) := by rw [l_lst, List.length_map]
  have hr := iRng_nat (o := .e (eP (p1 prLenQ (qR 1)))) (ρ := [some (.bo, j), some (.fz, .lst (l.map iD)), some (.ow, .lst (l.map iD)), some (.ow, .lst []), none]) (h := .val (.int (l.length : Nat))) (ρ1 := [some (.bo, j), some (.fz, .lst (l.map iD)), some (.ow, .lst (l.map iD)), some (.ow, .lst []), none]) (n := l.length) (by simp [evO, eP, p1, qR, gtR_eq, gt, hln]) rfl (by omega)
  have hw : w_law_mixed = (sSeq (sAsgR (.n 2) (eP (p1 prList (qR 1))))
    (sSeq (sAsgR (.n 3) (fPrimV prLst []))
    (sSeq (sForR (.n 4) (iRng [(.e (eP (p1 prLenQ (qR 1))))]) bodyMx)
    (sRetVR 3)))) := rfl
  unfold m_law_mixed mI
  rw [hw]
  have h1' : loopR (.n 4) bodyMx (List.map iD (List.range l.length)) [some (.bo, j), some (.fz, .lst (l.map iD)), some (.ow, .lst (l.map iD)), some (.ow, .lst []), none] = _ := h1
  generalize bodyMx = bo at *
  generalize l.map iD = TT at *
  generalize made.map iD = MM at *
  generalize List.map iD (List.range l.length) = RR at *
  simp [startI, startV, seqOf, sSeq, sAsgR, sIf, sSet, sRet, sNx, sDrop, evO, evOs, vals, getAll, Hd.get, eP, eC, p1, p2, qP, qR, qC, gtR_eq, gt, nthR_eq, setR_eq, eVarR, asgR, tPf, tAn, tOo, tNo, tTr, tTv, truD, fIf, fPrim, fPrimV, fSl, evP, slD, restR, wipeR, fCall, fCallI, fMake, fAndV, fNotV, i_lt, i_le, i_gt, i_ge, i_add, i_sub, i_eq, i_ne, prList, prLst, sForR, hr, h1', sRetVR, finI, out0]
end
end Law_k14
/-! part Fo -/
set_option Elab.async false
set_option linter.all false
set_option maxRecDepth 100000
set_option maxHeartbeats 4000000
/-! Fo: the shapes and the forms in which they are passed (k14) -/
namespace Law_k14
open PySem L2 Pf
noncomputable section
def decB : Nat → List Nat → Bool
  | _, [] => true
  | p, s :: S => decide (1 ≤ s) && decide (s ≤ p) && decB s S
def goodB (S : List Nat) : Bool := decB 12 S && decide (S.sum ≤ 12) && decide (S.length ≤ 12) && S.all (fun s => decide (s ≤ 12)) && filOk S (conj S)
theorem dec_of : ∀ (S : List Nat) (p : Nat), decB p S = true → (∀ s, S[0]? = some s → s ≤ p) ∧ Dec S := by
  intro S
  induction S with
  | nil => intro p _; exact ⟨fun s h => by simp at h, fun i s h => by simp at h⟩
  | cons a S ih =>
    intro p h
    unfold decB at h
    rw [Bool.and_eq_true, Bool.and_eq_true, decide_eq_true_eq, decide_eq_true_eq] at h
    obtain ⟨⟨h1, h2⟩, h3⟩ := h
    obtain ⟨k1, k2⟩ := ih a h3
    refine ⟨fun s hs => by simp at hs; omega, fun i s hs => ?_⟩
    cases i with
    | zero => simp at hs; subst hs; exact ⟨h1, fun z => absurd z (by omega)⟩
    | succ i =>
      rw [List.getElem?_cons_succ] at hs
      refine ⟨(k2 i s hs).1, fun _ => ?_⟩
      cases i with
      | zero => exact ⟨a, rfl, k1 s hs⟩
      | succ i =>
        obtain ⟨q, hq, hl⟩ := (k2 (i + 1) s hs).2 (by omega)
        exact ⟨q, by simpa using hq, hl⟩
theorem good_of {S : List Nat} (h : goodB S = true) : Good S := by
  unfold goodB at h
  rw [Bool.and_eq_true, Bool.and_eq_true, Bool.and_eq_true, Bool.and_eq_true, decide_eq_true_eq, decide_eq_true_eq] at h
  obtain ⟨⟨⟨⟨h1, h2⟩, h3⟩, h4⟩, h5⟩ := h
  exact ⟨(dec_of S 12 h1).2, h2, h3, fun s hs => of_decide_eq_true (List.all_eq_true.mp h4 s hs), h5⟩
abbrev partsN := N14.parts
def allS : List (List Nat) := (List.range 13).flatMap fun n => partsN 14 n n
theorem all_good : allS.all goodB = true := by kernel_rfl
def txt (S : List Nat) : Str := match m_law_shape_text [tup S] with
  | .ok _ (.str t) _ => t
  | _ => ""
theorem tx1 : allS.map (fun S => m_law_shape_text [tup S]) = allS.map (fun S => .ok false (.str (txt S)) .non) := by kernel_rfl
theorem tx3 : allS.map (fun S => m_integers_in [.str (txt S)]) = allS.map (fun S => .ok true (.lst (S.map iD)) .non) := by kernel_rfl
/-- what is asked of a shape -/
structure Sh (S : List Nat) : Prop where
  g : Good S
  own : m_law_shape_text [tup S] = .ok false (.str (txt S)) .non
  back : m_integers_in [.str (txt S)] = .ok true (.lst (S.map iD)) .non
theorem sh_ok {S : List Nat} (h : S ∈ allS) : Sh S := ⟨good_of (List.all_eq_true.mp all_good S h), List.map_inj_left.mp tx1 S h, List.map_inj_left.mp tx3 S h⟩
theorem conj_all : allS.all (fun S => allS.any fun L => N14.beqL (conj S) L) = true := by kernel_rfl
theorem conj_sum : allS.all (fun S => Nat.beq (conj S).sum S.sum) = true := by kernel_rfl
theorem conj_in {S : List Nat} (h : S ∈ allS) : conj S ∈ allS ∧ (conj S).sum = S.sum := by
  have h1 := List.all_eq_true.mp conj_all S h
  obtain ⟨L, hL, e⟩ := List.any_eq_true.mp h1
  rw [N14.beqL_iff] at e
  have e := of_decide_eq_true e
  refine ⟨by rw [e]; exact hL, Nat.eq_of_beq_eq_true (List.all_eq_true.mp conj_sum S h)⟩
/-- the forms in which a shape is passed -/
def Form (S : List Nat) (X : D) : Prop := X = .str (txt S) ∨ X = .lst (S.map iD) ∨ X = tup S ∨ X = told S
theorem read_tup (S : List Nat) (hS : Dec S) : m_read_numbers [.tup (S.map iD)] = .ok false (.tup (S.map iD)) .non := by
  obtain ⟨x', y', hl⟩ := rd_loop S (some (.fz, .tup (S.map iD))) hS S 0 none none (fun i => by rw [Nat.zero_add])
  have hF : iEnu2 (eVarR 1) [some (.fz, .tup (S.map iD)), some (.ow, .lst (S.map iD)), none, none] = .ok (eN 0 S) [some (.fz, .tup (S.map iD)), some (.fz, .lst (S.map iD)), none, none] := by
    simp [iEnu2, eVarR, nthR_eq, seqOf, enumD_eq, setR_eq]
  have i1 : ∀ (X : List D) (r : Ve), fIs isa [.b "str"] (.v 0) (some (.fz, .tup X) :: r) = .ok false (.bl false) (some (.fz, .tup X) :: r) := fun X r => by kernel_rfl
  have i2 : ∀ (X : List D) (r : Ve), fIs isa [.b "list", .b "tuple"] (.v 0) (some (.fz, .tup X) :: r) = .ok false (.bl true) (some (.fz, .tup X) :: r) := fun X r => by kernel_rfl
  unfold m_read_numbers mF w_read_numbers
  generalize S.map iD = T at *
  have hb : bodyRd = (sSeq (sIf (tOo (tNo (tTr (.e (fCall m_is_integer [(.e (eVarR 3))])))) (tPf (p2 prLt (qR 3) (qC (.int 1))))) sNo sNx)
    (sIf (tAn (tPf (p2 prGt (qR 2) (qC (.int 0)))) (tPf (p2 prGt (qR 3) (qP (p2 prSubQ (qR 1) (qP (p2 prSub (qR 2) (qC (.int 1))))))))) sNo sNx)) := rfl
  rw [← hb]
  generalize bodyRd = bod at *
  simp [startV, sSeq, sIf, tTr, evO, i1, i2, Hd.get, truD, sAsgR, eP, p1, qR, gtR_eq, gt, prList, seqOf, asgR, setR_eq, sForR, hF, hl, sRet, prTuple, finF]
theorem init_form {S : List Nat} {X : D} (o : Sh S) (f : Form S X) : m_Shape_init [.ins 0 [], X] = .ok false .non (told S) := by
  rcases f with e | e | e | e <;> subst e
  · exact init_str o.g _ o.back
  · exact init_lst o.g
  · exact init_read o.g _ (by kernel_rfl) (read_tup S o.g.dec)
  · exact init_ins o.g _
theorem shape_in_ok {S : List Nat} (o : Sh S) {N : Nat} {j : D} (h : JarOk N j) (hN : N < 900000) : ∃ fl X j', m_law_shape_in [j, tup S] = .ok fl X j' ∧ Form S X ∧ JarOk (N + 1) j' := by
  obtain ⟨r, j', hd, r0, r1, hj⟩ := draw_ok (top := 5) h (by decide) (by decide) (by omega)
  have h1 := o.own
  have h3 := init_form o (.inl rfl)
  have h4 := init_form o (.inr (.inl rfl))
  have hl : prList [tup S] = some (true, .lst (S.map iD)) := rfl
  have ht : prTuple [tup S] = some (false, tup S) := rfl
  have hr : r = 0 ∨ r = 1 ∨ r = 2 ∨ r = 3 ∨ r = 4 := by omega
  have fm : ∀ X, Form S X → Form S X := fun _ h => h
  have f1 : Form S (.str (txt S)) := .inl rfl
  have f2 : Form S (.lst (S.map iD)) := .inr (.inl rfl)
  have f3 : Form S (tup S) := .inr (.inr (.inl rfl))
  have f4 : Form S (told S) := .inr (.inr (.inr rfl))
  unfold m_law_shape_in mI w_law_shape_in
  generalize tup S = U at *
  generalize told S = T at *
  generalize S.map iD = L at *
  rcases hr with hr | hr | hr | hr | hr <;> subst hr
  · exact ⟨false, .str (txt S), j', by simp [startI, startV, seqOf, sSeq, sAsgR, sIf, sSet, sRet, sNx, sDrop, evO, evOs, vals, getAll, Hd.get, eP, eC, p1, p2, qP, qR, qC, gtR_eq, gt, nthR_eq, setR_eq, eVarR, asgR, tPf, tAn, tOo, tNo, tTr, tTv, truD, fIf, fPrim, fPrimV, fSl, evP, slD, restR, wipeR, fCall, fCallI, fMake, fAndV, fNotV, i_lt, i_le, i_gt, i_ge, i_add, i_sub, i_eq, i_ne, hd, h1, finI, out0], f1, hj⟩
  · exact ⟨true, .lst L, j', by simp [startI, startV, seqOf, sSeq, sAsgR, sIf, sSet, sRet, sNx, sDrop, evO, evOs, vals, getAll, Hd.get, eP, eC, p1, p2, qP, qR, qC, gtR_eq, gt, nthR_eq, setR_eq, eVarR, asgR, tPf, tAn, tOo, tNo, tTr, tTv, truD, fIf, fPrim, fPrimV, fSl, evP, slD, restR, wipeR, fCall, fCallI, fMake, fAndV, fNotV, i_lt, i_le, i_gt, i_ge, i_add, i_sub, i_eq, i_ne, hd, hl, finI, out0], f2, hj⟩
  · exact ⟨false, U, j', by simp [startI, startV, seqOf, sSeq, sAsgR, sIf, sSet, sRet, sNx, sDrop, evO, evOs, vals, getAll, Hd.get, eP, eC, p1, p2, qP, qR, qC, gtR_eq, gt, nthR_eq, setR_eq, eVarR, asgR, tPf, tAn, tOo, tNo, tTr, tTv, truD, fIf, fPrim, fPrimV, fSl, evP, slD, restR, wipeR, fCall, fCallI, fMake, fAndV, fNotV, i_lt, i_le, i_gt, i_ge, i_add, i_sub, i_eq, i_ne, hd, ht, finI, out0], f3, hj⟩
  · exact ⟨true, T, j', by simp [startI, startV, seqOf, sSeq, sAsgR, sIf, sSet, sRet, sNx, sDrop, evO, evOs, vals, getAll, Hd.get, eP, eC, p1, p2, qP, qR, qC, gtR_eq, gt, nthR_eq, setR_eq, eVarR, asgR, tPf, tAn, tOo, tNo, tTr, tTv, truD, fIf, fPrim, fPrimV, fSl, evP, slD, restR, wipeR, fCall, fCallI, fMake, fAndV, fNotV, i_lt, i_le, i_gt, i_ge, i_add, i_sub, i_eq, i_ne, hd, h1, h3, finI, out0], f4, hj⟩
  · exact ⟨true, T, j', by simp [startI, startV, seqOf, sSeq, sAsgR, sIf, sSet, sRet, sNx, sDrop, evO, evOs, vals, getAll, Hd.get, eP, eC, p1, p2, qP, qR, qC, gtR_eq, gt, nthR_eq, setR_eq, eVarR, asgR, tPf, tAn, tOo, tNo, tTr, tTv, truD, fIf, fPrim, fPrimV, fSl, evP, slD, restR, wipeR, fCall, fCallI, fMake, fAndV, fNotV, i_lt, i_le, i_gt, i_ge, i_add, i_sub, i_eq, i_ne, hd, hl, h4, finI, out0], f4, hj⟩
theorem turned_eq (S : List Nat) (hS : S.length ≤ 1000) (hm : ∀ s ∈ S, s ≤ 1000) : m_law_turned [tup S] = .ok false (tup (conj S)) .non := by
  cases S with
  | nil => kernel_rfl
  | cons s S =>
    have hs := hm s (List.mem_cons_self ..)
    have q0 : prSubQ [tup (s :: S), .int 0] = some (false, .int (s : Nat)) := q_tup (by simp [atI, ixN, iD])
    have hco := cols_out (s :: S) hS (List.range s)
    have hc : (List.range s).map (fun c => ((s :: S).filter (fun x => decide (c < x))).length) = conj (s :: S) := rfl
    rw [hc] at hco
    have hne : prNe [tup (s :: S), .tup []] = some (false, .bl true) := by
      have hi : ∀ l : List Nat, intsD (l.map iD) = some (l.map fun n : Nat => (n : Int)) := fun l => by
        induction l with
        | nil => rfl
        | cons a l ih => rw [List.map_cons]; unfold intsD iD; dsimp only; rw [show intsD (List.map (fun n : Nat => D.int (n : Nat)) l) = _ from ih]; rfl
      show (match eqD (.tup ((s :: S).map iD)) (.tup []) with | some r => some (false, D.bl (!r)) | none => none) = _
      have e : eqD (.tup ((s :: S).map iD)) (.tup []) = some false := by
        show (match intsD ((s :: S).map iD), intsD [] with
          | some x, some y => if x.length ≤ 1000 ∧ y.length ≤ 1000 then some (eqI x y) else none
          | _, _ => eqSlow (.tup ((s :: S).map iD)) (.tup [])) = _
        rw [hi]
        show (if ((s :: S).map fun n : Nat => (n : Int)).length ≤ 1000 ∧ (0 : Nat) ≤ 1000 then some (eqI ((s :: S).map fun n : Nat => (n : Int)) []) else none) = _
        rw [if_pos ⟨by rw [List.length_map]; omega, by decide⟩]; rfl
      rw [e]; rfl
    have ht : tup (s :: S) = .tup ((s :: S).map iD) := rfl
    have ht2 : tup (conj (s :: S)) = .tup ((conj (s :: S)).map iD) := rfl
    rw [ht] at q0 hne ⊢
    rw [ht2]
    generalize (conj (s :: S)).map iD = Y at *
    have hlen : ((s :: S).map iD).length ≤ 100000 := by rw [List.length_map]; omega
    generalize (s :: S).map iD = T at *
    have comp := fLcR_ok (vs := [1]) (F := iRng [(.e (eP (p2 prSubQ (qR 0) (qC (.int 0)))))]) (ρ := [some (.fz, .tup T), none, none]) (iRng_nat (n := s) (h := .val (.int (s : Nat))) (ρ1 := [some (.fz, .tup T), none, none]) (by simp [evO, eP, p2, qR, qC, gtR_eq, gt, q0]) rfl (by omega)) rfl (by simp; omega) hco
    unfold m_law_turned mF w_law_turned
    simp [startV, seqOf, sSeq, sAsgR, sIf, sSet, sRet, sNx, sDrop, evO, evOs, vals, getAll, Hd.get, eP, eC, p1, p2, qP, qR, qC, gtR_eq, gt, nthR_eq, setR_eq, eVarR, asgR, tPf, tAn, tOo, tNo, tTr, tTv, truD, fIf, fPrim, fPrimV, fSl, evP, slD, restR, wipeR, fCall, fCallI, fMake, fAndV, fNotV, i_lt, i_le, i_gt, i_ge, i_add, i_sub, i_eq, i_ne, hne, comp, prTup, prTuple, finF]
end
end Law_k14
/-! part Tt -/
set_option Elab.async false
set_option linter.all false
set_option maxRecDepth 100000
set_option maxHeartbeats 4000000
/-! Tt: trace and its refusal, _law_trace_told (k14) -/
namespace Law_k14
open PySem L2 Pf
noncomputable section
theorem sumL (S : List Nat) : prSum [.lst (S.map iD)] = some (false, .int (S.sum : Nat)) := by
  have h := sumD S
  unfold prSum at *
  exact h
theorem perm_sum {a b : List Nat} (h : a.Perm b) : a.sum = b.sum := h.sum_nat
theorem sort_perm {h mu : List Nat} (hp : h.Perm mu) (hm : mu.Pairwise (· ≥ ·)) (b : Bool) : prSortS true [if b then .lst (h.map iD) else .tup (h.map iD)] = some (true, .lst (mu.map iD)) := by
  have e : (mu.map fun n : Nat => (n : Int)) = srtB true (h.map fun n : Nat => (n : Int)) := by
    refine srtB_uniq (List.Perm.map _ hp.symm) ?_
    show (List.map _ _).Pairwise _
    refine List.pairwise_map.mpr (hm.imp fun {p q} h => ?_)
    show ((p : Nat) : Int) ≥ (q : Nat)
    have : p ≥ q := h
    omega
  have hq : seqOf (if b then .lst (h.map iD) else .tup (h.map iD)) = some (h.map iD) := by cases b <;> rfl
  unfold prSortS
  dsimp only
  rw [hq]
  dsimp only
  rw [ints_iD]
  dsimp only
  rw [← e, List.map_map]
  rfl
def kf (b : Bool) (h : List Nat) : D := if b then .lst (h.map iD) else .tup (h.map iD)
theorem sum_kf (b : Bool) (h : List Nat) : prSum [kf b h] = some (false, .int (h.sum : Nat)) := by
  cases b
  · exact sumD h
  · exact sumL h
theorem trace_ok {S mu h : List Nat} {X : D} {v : Int} (o : Sh S) (f : Form S X) (b : Bool) (hp : h.Perm mu) (hm : mu.Pairwise (· ≥ ·)) (hs : mu.sum = S.sum) (hb : N14.back S mu = some v) : m_trace [X, kf b h] = .ok false (.int v) .non := by
  have h1 := init_form o f
  have h2 := sum_kf b h
  have h3 : h.sum = S.sum := by rw [perm_sum hp, hs]
  have h4 : prSortS true [kf b h] = some (true, .lst (mu.map iD)) := sort_perm hp hm b
  have h5 : m_trace_of [tup S, .lst (mu.map iD)] = .ok false (.int v) .non := trace_of_eq S mu v o.g.len hb
  have f0 : prFld [(0, 0)] [told S] = some (false, tup S) := rfl
  have f1 : prFld [(0, 1)] [told S] = some (false, .int (S.sum : Nat)) := rfl
  rw [h3] at h2
  unfold m_trace mF w_trace
  generalize tup S = U at *
  generalize told S = T at *
  generalize kf b h = Y at *
  generalize mu.map iD = M at *
  simp [startV, seqOf, sSeq, sAsgR, sIf, sSet, sRet, sNx, sDrop, evO, evOs, vals, getAll, Hd.get, eP, eC, p1, p2, qP, qR, qC, gtR_eq, gt, nthR_eq, setR_eq, eVarR, asgR, tPf, tAn, tOo, tNo, tTr, tTv, truD, fIf, fPrim, fPrimV, fSl, evP, slD, restR, wipeR, fCall, fCallI, fMake, fAndV, fNotV, i_lt, i_le, i_gt, i_ge, i_add, i_sub, i_eq, i_ne, h1, h2, f1, f0, h4, h5, finF]
theorem trace_ex {S h : List Nat} {X : D} (o : Sh S) (f : Form S X) (b : Bool) (hs : h.sum ≠ S.sum) : m_trace [X, kf b h] = .ex (.ins 1 [.str "size"]) .non := by
  have h1 := init_form o f
  have h2 := sum_kf b h
  have f1 : prFld [(0, 1)] [told S] = some (false, .int (S.sum : Nat)) := rfl
  have h3 : ¬ ((h.sum : Nat) : Int) = (S.sum : Nat) := by omega
  unfold m_trace mF w_trace
  generalize told S = T at *
  generalize kf b h = Y at *
  simp [startV, seqOf, sSeq, sAsgR, sIf, sSet, sRet, sNx, sDrop, evO, evOs, vals, getAll, Hd.get, eP, eC, p1, p2, qP, qR, qC, gtR_eq, gt, nthR_eq, setR_eq, eVarR, asgR, tPf, tAn, tOo, tNo, tTr, tTv, truD, fIf, fPrim, fPrimV, fSl, evP, slD, restR, wipeR, fCall, fCallI, fMake, fAndV, fNotV, i_lt, i_le, i_gt, i_ge, i_add, i_sub, i_eq, i_ne, h1, h2, f1, h3, hs, sRaise, finF]
theorem refused_ok : m_law_refused (.ex (.ins 1 [.str "size"]) .non) [.lam, .lst [.str "Unlike", .str "size"]] = .ok false (.bl true) .non := by kernel_rfl
theorem shaped_intsL (x : List Int) : SeqAt.shaped (.list (x.map PyData.int)) = true := by
  have h := dep_ints x
  unfold SeqAt.shaped
  rw [Bool.and_eq_true, decide_eq_true_eq]
  refine ⟨by simp only [PyData.canLay0]; exact lay_ints x, ?_⟩
  simp only [PyData.depth]
  omega
theorem pyZ (l : List Int) : pyOfL (l.map D.int) = some (l.map PyData.int) := by
  induction l with
  | nil => rfl
  | cons a l ih => rw [List.map_cons]; unfold pyOfL; rw [ih]; rfl
theorem eqI_refl : ∀ l : List Int, eqI l l = true
  | [] => rfl
  | a :: l => by unfold eqI; rw [eqI_refl l]; simp
theorem ne_lst (l : List Int) : prNe [.lst (l.map D.int), .lst (l.map D.int)] = some (false, .bl false) := by
  have e : eqD (.lst (l.map D.int)) (.lst (l.map D.int)) = some true := by
    show eqSlow _ _ = some true
    unfold eqSlow pyOf
    rw [pyZ]
    dsimp only
    rw [if_pos ⟨shaped_intsL l, shaped_intsL l⟩]
    rw [show PyData.eqv (.list (l.map PyData.int)) (.list (l.map PyData.int)) = PyData.eqvAll (l.map PyData.int) (l.map PyData.int) from by simp [PyData.eqv], eqI_eqv, eqI_refl]
  show (match eqD (.lst (l.map D.int)) (.lst (l.map D.int)) with | some r => some (false, D.bl (!r)) | none => none) = _
  rw [e]; rfl
/-- what is asked of a shape and a kind -/
structure Pair (S mu : List Nat) (v : Int) : Prop where
  o : Sh S
  o' : Sh (conj S)
  fw : ∃ d, N14.runF mu [(N14.stair (N14.farN S), 1)] = some d ∧ N14.lookD (N14.target S) d = v
  h0 : N14.OkD [(N14.stair (N14.farN S), 1)]
  bk : N14.back S mu = some v
  bm : N14.back (conj S) mu = some (v * (bif N14.sgnMu mu then 1 else -1))
  fall : mu.Pairwise (· ≥ ·)
  sum : mu.sum = S.sum
  sum' : mu.sum = (conj S).sum
  len : mu.length ≤ 100
  sm : v.natAbs < 1000000000000
abbrev sgnE : EF := (fIf (tTv (fPrim prEq [(.e (fPrim prMod [(.e (fPrim prInt [(.e (fPrim prLenQ [(.e (fLcR [8] (iSeq (eVarR 2)) (.n 8) (tPf (p2 prEq (qP (p2 prMod (qP (p1 prInt (qR 8))) (qC (.int 2)))) (qC (.int 0)))) (eVarR 8)))]))])), (.e (eC (.int 2)))])), (.e (eC (.int 0)))])) (eC (.int 1)) (eP (p2 prSub (qC (.int 0)) (qC (.int 1)))))
theorem sgn_ok (mu : List Nat) (hl : mu.length ≤ 100) (A B C D' E F G : Sl) : sgnE [A, B, some (.fz, tup mu), C, D', E, F, G, none] = .ok false (.int (bif N14.sgnMu mu then 1 else -1)) [A, B, some (.fz, tup mu), C, D', E, F, G, none] := by
  have hm : ∀ a : Int, prMod [.int a, .int 2] = some (false, .int (a % 2)) := fun a => i_mod (by decide)
  have hi : ∀ a : Int, prInt [.int a] = some (false, .int a) := fun _ => rfl
  have hc : fLcR [8] (iSeq (eVarR 2)) (.n 8) (tPf (p2 prEq (qP (p2 prMod (qP (p1 prInt (qR 8))) (qC (.int 2)))) (qC (.int 0)))) (eVarR 8) [A, B, some (.fz, tup mu), C, D', E, F, G, none] = .ok true (.lst ((mu.filter fun x => Nat.beq (x % 2) 0).map iD)) [A, B, some (.fz, tup mu), C, D', E, F, G, none] := by
    refine fLcR_same iD (fun x => Nat.beq (x % 2) 0) iD (xs := mu) rfl rfl (by omega) rfl rfl fun x _ => ⟨_, rfl, ?_, fun _ => ⟨false, rfl⟩, rfl⟩
    have e : decide (((x : Nat) : Int) % 2 = 0) = Nat.beq (x % 2) 0 := by
      by_cases h : x % 2 = 0
      · rw [h, decide_eq_true (by omega)]; rfl
      · have : x % 2 = 1 := by omega
        rw [this, decide_eq_false (by omega)]; rfl
    rw [← e]
    generalize tup mu = T
    simp [seqOf, sSeq, sAsgR, sIf, sSet, sRet, sNx, sDrop, evO, evOs, vals, getAll, Hd.get, eP, eC, p1, p2, qP, qR, qC, gtR_eq, gt, nthR_eq, setR_eq, eVarR, asgR, tPf, tAn, tOo, tNo, tTr, tTv, truD, fIf, fPrim, fPrimV, fSl, evP, slD, restR, wipeR, fCall, fCallI, fMake, fAndV, fNotV, i_lt, i_le, i_gt, i_ge, i_add, i_sub, i_eq, i_ne, iD, hi, hm]
  have hln : prLenQ [.lst ((mu.filter fun x => Nat.beq (x % 2) 0).map iD)] = some (false, .int ((mu.filter fun x => Nat.beq (x % 2) 0).length : Nat)) := by rw [l_lst, List.length_map]
  unfold N14.sgnMu
  generalize (mu.filter fun x => Nat.beq (x % 2) 0).length = n at *
  generalize (mu.filter fun x => Nat.beq (x % 2) 0).map iD = L at *
  generalize tup mu = T at *
  have he : ∀ a b : Int, prEq [.int a, .int b] = some (false, .bl (decide (a = b))) := fun _ _ => rfl
  by_cases h : n % 2 = 0
  · have h' : ((n : Nat) : Int) % 2 = 0 := by omega
    simp [sgnE, seqOf, sSeq, sAsgR, sIf, sSet, sRet, sNx, sDrop, evO, evOs, vals, getAll, Hd.get, eP, eC, p1, p2, qP, qR, qC, gtR_eq, gt, nthR_eq, setR_eq, eVarR, asgR, tPf, tAn, tOo, tNo, tTr, tTv, truD, fIf, fPrim, fPrimV, fSl, evP, slD, restR, wipeR, fCall, fCallI, fMake, fAndV, fNotV, i_lt, i_le, i_gt, i_ge, i_add, i_sub, i_eq, i_ne, hc, hln, hi, hm, h, h']
  · have h' : ((n : Nat) : Int) % 2 = 1 := by omega
    have h2 : n % 2 = 1 := by omega
    simp [sgnE, seqOf, sSeq, sAsgR, sIf, sSet, sRet, sNx, sDrop, evO, evOs, vals, getAll, Hd.get, eP, eC, p1, p2, qP, qR, qC, gtR_eq, gt, nthR_eq, setR_eq, eVarR, asgR, tPf, tAn, tOo, tNo, tTr, tTv, truD, fIf, fPrim, fPrimV, fSl, evP, slD, restR, wipeR, fCall, fCallI, fMake, fAndV, fNotV, i_lt, i_le, i_gt, i_ge, i_add, i_sub, i_eq, i_ne, hc, hln, hi, hm, h2, h']; try rfl
abbrev bodyW : SF := (sSeq (sAsgR (.n 6) (fCallI m_law_mixed 0 [(.e (eP (p1 prList (qR 2))))]))
    (sSeq (sAsgR (.n 7) (eP (p1 prList (qR 6))))
    (sSeq (sIf (tOo (tNo (tTr (.e (fCall (m_law_like 4) [(.e (fCall m_trace [(.e (fCallI m_law_shape_in 0 [(.e (eVarR 1))])), (.e (eVarR 6))])), (.e (eVarR 3))])))) (tOo (tNo (tTr (.e (fCall (m_law_like 4) [(.e (fCall m_trace [(.e (fCallI m_law_shape_in 0 [(.e (eVarR 1))])), (.e (eP (p1 prTuple (qR 6))))])), (.e (eVarR 3))])))) (tPf (p2 prNe (qR 6) (qR 7))))) (sRet (eC (.bl false))) sNx)
    (sIf (tNo (tTr (.e (fCall (m_law_like 4) [(.e (fCallK m_trace ar_trace_kind_shape [] [(.e (eVarR 6)), (.e (fCallI m_law_shape_in 0 [(.e (fCall m_law_turned [(.e (eVarR 1))]))]))])), (.e (eP (p2 prMul (qR 3) (qR 4))))])))) (sRet (eC (.bl false))) sNx))))
theorem turnW {S mu : List Nat} {v : Int} (P : Pair S mu v) {N : Nat} {j : D} (h : JarOk N j) (hN : N < 700000) (x5 x6 x7 : Sl) : ∃ j' y6 y7,
    bodyW [some (.bo, j), some (.fz, tup S), some (.fz, tup mu), some (.fz, .int v), some (.fz, .int (bif N14.sgnMu mu then 1 else -1)), x5, x6, x7, none] =
      .nx [some (.bo, j'), some (.fz, tup S), some (.fz, tup mu), some (.fz, .int v), some (.fz, .int (bif N14.sgnMu mu then 1 else -1)), x5, y6, y7, none] ∧ JarOk (N + 200) j' := by
  have hlen := P.len
  obtain ⟨hd, j1, hp, hm, h1⟩ := mixed_ok h mu P.len (by omega)
  obtain ⟨fl2, X2, j2, hs2, f2, h2⟩ := shape_in_ok P.o h1 (by omega)
  obtain ⟨fl3, X3, j3, hs3, f3, h3⟩ := shape_in_ok P.o h2 (by omega)
  obtain ⟨fl4, X4, j4, hs4, f4, h4⟩ := shape_in_ok P.o' h3 (by omega)
  have hlist : prList [tup mu] = some (true, .lst (mu.map iD)) := rfl
  have hlist2 : prList [.lst (hd.map iD)] = some (true, .lst (hd.map iD)) := rfl
  have htup : prTuple [.lst (hd.map iD)] = some (false, .tup (hd.map iD)) := rfl
  have ht2 : m_trace [X2, .lst (hd.map iD)] = .ok false (.int v) .non := trace_ok P.o f2 true hp P.fall P.sum P.bk
  have ht3 : m_trace [X3, .tup (hd.map iD)] = .ok false (.int v) .non := trace_ok P.o f3 false hp P.fall P.sum P.bk
  have ht4 : m_trace [X4, .lst (hd.map iD)] = .ok false (.int (v * (bif N14.sgnMu mu then 1 else -1))) .non := trace_ok P.o' f4 true hp P.fall P.sum' P.bm
  have hlk : ∀ i : Int, m_law_like 4 [.int i, .int i] = .ok false (.bl true) .non := fun i => by
    have := like_int 3 i i
    simpa using this
  have hne : prNe [.lst (hd.map iD), .lst (hd.map iD)] = some (false, .bl false) := by
    have := ne_lst (hd.map fun n : Nat => (n : Int))
    rw [List.map_map] at this; exact this
  have htn := turned_eq S (by have := P.o.g.len; omega) (fun s hs => by have := P.o.g.mem s hs; omega)
  have hmul : prMul [.int v, .int (bif N14.sgnMu mu then 1 else -1)] = some (false, .int (v * (bif N14.sgnMu mu then 1 else -1))) := i_mul (okMul_of' (Nat.lt_of_lt_of_le P.sm (by decide)) (by cases N14.sgnMu mu <;> decide))
  refine ⟨j4, some (.fz, .lst (hd.map iD)), some (.ow, .lst (hd.map iD)), ?_, h4.mono (by omega)⟩
  generalize (bif N14.sgnMu mu then (1 : Int) else -1) = sg at *
  generalize tup S = U at *
  generalize tup (conj S) = U' at *
  generalize tup mu = M at *
  generalize mu.map iD = ML at *
  generalize hd.map iD = H at *
  simp [bodyW, seqOf, sSeq, sAsgR, sIf, sSet, sRet, sNx, sDrop, evO, evOs, vals, getAll, Hd.get, eP, eC, p1, p2, qP, qR, qC, gtR_eq, gt, nthR_eq, setR_eq, eVarR, asgR, tPf, tAn, tOo, tNo, tTr, tTv, truD, fIf, fPrim, fPrimV, fSl, evP, slD, restR, wipeR, fCall, fCallI, fMake, fAndV, fNotV, i_lt, i_le, i_gt, i_ge, i_add, i_sub, i_eq, i_ne, hlist, hm, hlist2, hs2, ht2, hlk, hs3, htup, ht3, hne, fCallK, htn, hs4, ar_trace_kind_shape, sw2, ht4, hmul]
theorem told_ok {S mu : List Nat} {v : Int} (P : Pair S mu v) {N : Nat} {j : D} (h : JarOk N j) (hN : N < 600000) : ∃ j', m_law_trace_told [j, tup S, tup mu] = .ok false (.bl true) j' ∧ JarOk (N + 400) j' := by
  obtain ⟨d, hd, hv⟩ := P.fw
  have hlen := P.len
  have h1 := law_trace_eq S mu d P.o.g.len (by omega) (by have := P.sum; have := P.o.g.sum; omega) hd P.h0
  rw [hv] at h1
  have h2 := sgn_ok mu P.len (some (.bo, j)) (some (.fz, tup S)) (some (.fz, .int v)) none none none none
  obtain ⟨j1, y6, y7, e1, k1⟩ := turnW P h (by omega) (some (.fz, .int 0)) none none
  obtain ⟨j2, z6, z7, e2, k2⟩ := turnW P k1 (by omega) (some (.fz, .int 1)) y6 y7
  have hr := iRng_nat (o := .e (eC (.int 2))) (ρ := [some (.bo, j), some (.fz, tup S), some (.fz, tup mu), some (.fz, .int v), some (.fz, .int (bif N14.sgnMu mu then 1 else -1)), none, none, none, none]) (h := .val (.int ((2 : Nat) : Int))) (ρ1 := [some (.bo, j), some (.fz, tup S), some (.fz, tup mu), some (.fz, .int v), some (.fz, .int (bif N14.sgnMu mu then 1 else -1)), none, none, none, none]) (n := 2) rfl rfl (by decide)
  have hrl : (List.range 2).map iD = [.int 0, .int 1] := rfl
  rw [hrl] at hr
  refine ⟨j2, ?_, k2.mono (by omega)⟩
  have hw : w_law_trace_told = (sSeq (sAsgR (.n 3) (fCall m_law_trace [(.e (eVarR 1)), (.e (eVarR 2))]))
    (sSeq (sAsgR (.n 4) sgnE)
    (sSeq (sForR (.n 5) (iRng [(.e (eC (.int 2)))]) bodyW)
    (sRet (eC (.bl true)))))) := rfl
  unfold m_law_trace_told mI
  rw [hw]
  generalize (bif N14.sgnMu mu then (1 : Int) else -1) = sg at *
  generalize bodyW = bw at *
  generalize sgnE = se at *
  generalize tup S = U at *
  generalize tup mu = M at *
  simp [startI, startV, seqOf, sSeq, sAsgR, sIf, sSet, sRet, sNx, sDrop, evO, evOs, vals, getAll, Hd.get, eP, eC, p1, p2, qP, qR, qC, gtR_eq, gt, nthR_eq, setR_eq, eVarR, asgR, tPf, tAn, tOo, tNo, tTr, tTv, truD, fIf, fPrim, fPrimV, fSl, evP, slD, restR, wipeR, fCall, fCallI, fMake, fAndV, fNotV, i_lt, i_le, i_gt, i_ge, i_add, i_sub, i_eq, i_ne, h1, h2, sForR, hr, loopR_cons, e1, e2, finI, out0]
  simp [loopR, finI, out0]
end
end Law_k14
/-! part Ln -/
set_option Elab.async false
set_option linter.all false
set_option maxRecDepth 1000000
set_option maxHeartbeats 4000000
/-! Ln: lists, counts, the facts of all pairs from the finite check (k14) -/
namespace Law_k14
open PySem L2 Pf
noncomputable section
theorem lists_all : (List.range 13).map (fun n : Nat => m_law_lists 14 [.int (n : Nat), .int (n : Nat)]) = (List.range 13).map (fun n => FR.ok true (.lst ((partsN 14 n n).map tup)) .non) := by kernel_rfl
theorem lists_ok {n : Nat} (h : n < 13) : m_law_lists 14 [.int (n : Nat), .int (n : Nat)] = .ok true (.lst ((partsN 14 n n).map tup)) .non := List.map_inj_left.mp lists_all n (List.mem_range.mpr h)
def ones (n : Nat) : List Nat := List.replicate n 1
def bkV (S mu : List Nat) : Int := match N14.back S mu with
  | some v => v
  | none => 0
theorem cnt_all : (List.range 9).map (fun n => (partsN 14 n n).map fun S => m_law_count [tup S]) = (List.range 9).map (fun n => (partsN 14 n n).map fun S => FR.ok false (.int (bkV S (ones n))) .non) := by kernel_rfl
theorem cnt_ok {n : Nat} (h : n < 9) {S : List Nat} (hS : S ∈ partsN 14 n n) : m_law_count [tup S] = .ok false (.int (bkV S (ones n))) .non :=
  List.map_inj_left.mp (List.map_inj_left.mp cnt_all n (List.mem_range.mpr h)) S hS
theorem size_all : (List.range 13).all (fun n => Nat.blt 0 (partsN 14 n n).length && Nat.blt (partsN 14 n n).length 1000 && Nat.blt 0 (N14.menu n).length && (partsN 14 n n).all (fun S => Nat.beq S.sum n && (N14.fars n).any (Nat.beq (N14.farN S)))) = true := by kernel_rfl
theorem ones_all : (List.range 9).all (fun n => (N14.menu n).any fun mu => N14.beqL mu (ones n)) = true := by kernel_rfl
theorem stair_all : (List.range 13).all (fun n => (N14.fars n).all fun f => N14.okD [(N14.stair f, 1)]) = true := by kernel_rfl
theorem decB_pw : ∀ (S : List Nat) (p : Nat), decB p S = true → S.Pairwise (· ≥ ·) ∧ ∀ x ∈ S, x ≤ p
  | [], _, _ => ⟨List.Pairwise.nil, fun _ h => by cases h⟩
  | s :: S, p, h => by
    unfold decB at h
    rw [Bool.and_eq_true, Bool.and_eq_true, decide_eq_true_eq, decide_eq_true_eq] at h
    obtain ⟨h1, h2⟩ := decB_pw S s h.2
    refine ⟨List.pairwise_cons.mpr ⟨fun x hx => h2 x hx, h1⟩, fun x hx => ?_⟩
    rcases List.mem_cons.mp hx with e | hx
    · rw [e]; exact h.1.2
    · have := h2 x hx; omega
theorem ieq {a b : Int} (h : N14.ieqB a b = true) : a = b := by
  unfold N14.ieqB at h
  split at h
  · exact congrArg Int.ofNat (Nat.eq_of_beq_eq_true h)
  · exact congrArg Int.negSucc (Nat.eq_of_beq_eq_true h)
  · cases h
theorem runF_ok : ∀ (mu : List Nat) (d0 d : N14.Dc), N14.OkD d0 → N14.runF mu d0 = some d → N14.OkD d
  | [], d0, d, h, e => by cases e; exact h
  | p :: mu, d0, d, h, e => by
    have e' : (bif N14.okD (N14.turnF p d0) then N14.runF mu (N14.turnF p d0) else none) = some d := e
    cases hw : N14.okD (N14.turnF p d0) with
    | false => rw [hw] at e'; cases e'
    | true => rw [hw] at e'; exact runF_ok mu _ d (N14.okD_ok hw) e'
theorem menu_sub {n : Nat} {mu : List Nat} (h : mu ∈ N14.menu n) : mu ∈ partsN 14 n n := (List.mem_filter.mp h).1
theorem mem_all {n : Nat} (hn : n < 13) {S : List Nat} (h : S ∈ partsN 14 n n) : S ∈ allS := List.mem_flatMap.mpr ⟨n, List.mem_range.mpr hn, h⟩
theorem size_ok {n : Nat} (hn : n < 13) : 0 < (partsN 14 n n).length ∧ (partsN 14 n n).length < 1000 ∧ 0 < (N14.menu n).length ∧ ∀ S ∈ partsN 14 n n, S.sum = n ∧ N14.farN S ∈ N14.fars n := by
  have h := List.all_eq_true.mp size_all n (List.mem_range.mpr hn)
  simp only [Bool.and_eq_true] at h
  obtain ⟨⟨⟨h1, h2⟩, h3⟩, h4⟩ := h
  refine ⟨Nat.ble_eq.mp h1, Nat.ble_eq.mp h2, Nat.ble_eq.mp h3, fun S hS => ?_⟩
  have h5 := List.all_eq_true.mp h4 S hS
  rw [Bool.and_eq_true] at h5
  obtain ⟨f, hf, e⟩ := List.any_eq_true.mp h5.2
  exact ⟨Nat.eq_of_beq_eq_true h5.1, by rw [Nat.eq_of_beq_eq_true e]; exact hf⟩
theorem conj_eq (S : List Nat) : N14.conj S = conj S := by cases S <;> rfl
theorem pair_of {n : Nat} (hn : n < 13) (cF : (N14.fars n).all (N14.chkF n) = true) (cM : N14.chkM n = true) {S mu : List Nat} (hS : S ∈ partsN 14 n n) (hm : mu ∈ N14.menu n) : Pair S mu (bkV S mu) := by
  have hSa := mem_all hn hS
  have hma := mem_all hn (menu_sub hm)
  obtain ⟨hc, hcs⟩ := conj_in hSa
  obtain ⟨hsum, hfar⟩ := (size_ok hn).2.2.2 S hS
  obtain ⟨hsum2, _⟩ := (size_ok hn).2.2.2 mu (menu_sub hm)
  have h0 := N14.okD_ok (List.all_eq_true.mp (List.all_eq_true.mp stair_all n (List.mem_range.mpr hn)) _ hfar)
  have c1 := List.all_eq_true.mp (List.all_eq_true.mp cF _ hfar) mu hm
  have c2 := List.all_eq_true.mp (List.all_eq_true.mp cM S hS) mu hm
  have gm := (sh_ok hma).g
  have hdm : decB 12 mu = true := by
    have := List.all_eq_true.mp all_good mu hma
    unfold goodB at this
    simp only [Bool.and_eq_true] at this
    exact this.1.1.1.1
  unfold N14.chk1 at c1
  split at c1
  · cases c1
  · rename_i d hd
    have c3 := List.all_eq_true.mp c1 S (List.mem_filter.mpr ⟨hS, Nat.beq_refl _⟩)
    split at c3
    · rename_i v hv
      have e := ieq c3
      have hbv : bkV S mu = v := by unfold bkV; rw [hv]
      rw [hbv]
      split at c2
      · rename_i v1 w1 h1 h2
        rw [hv] at h2
        cases h2
        have e2 := ieq c2
        refine ⟨sh_ok hSa, sh_ok hc, ⟨d, hd, e⟩, h0, hv, ?_, (decB_pw mu 12 hdm).1, by rw [hsum, hsum2], by rw [hsum2, hcs, hsum], by have := gm.len; omega, ?_⟩
        · rw [← conj_eq, h1, e2]
          cases N14.sgnMu mu
          · show some (-v) = some (v * -1); congr 1; omega
          · show some v = some (v * 1); rw [Int.mul_one]
        · have ok := runF_ok mu _ d h0 hd
          rw [← e, N14.lookD_eq]
          unfold lookN
          split
          · rename_i kv hkv
            exact ok.sm kv (List.mem_of_find?_eq_some hkv)
          · decide
      · cases c2
    · cases c3
end
end Law_k14
/-! part Lw -/
set_option Elab.async false
set_option linter.all false
set_option maxRecDepth 1000000
set_option maxHeartbeats 4000000
/-! Lw: the law of k14, all draws -/
namespace Law_k14
open PySem L2 Pf
noncomputable section
/-- all pairs that are asked -/
def Pairs : Prop := ∀ n, n < 13 → ∀ S ∈ partsN 14 n n, ∀ mu ∈ N14.menu n, Pair S mu (bkV S mu)
abbrev sizeE : EF := (fIf (tTv (fPrim prEq [(.e (fCallI m_law_draw 1 [(.e (eC (.int 6)))])), (.e (eC (.int 0)))])) (fPrim prAdd [(.e (eC (.int 7))), (.e (fCallI m_law_draw 1 [(.e (eC (.int 6)))]))]) (fCallI m_law_draw 1 [(.e (eC (.int 7)))]))
theorem sizeE_ok {N : Nat} {j : D} (h : JarOk N j) (hN : N < 900000) (A : Sl) (r : Ve) : ∃ n j', n < 13 ∧ sizeE (A :: some (.ow, j) :: r) = .ok false (.int ((n : Nat) : Int)) (A :: some (.ow, j') :: r) ∧ JarOk (N + 2) j' := by
  obtain ⟨x, j1, hd, r0, r1, h1⟩ := draw_ok (top := 6) h (by decide) (by decide) (by omega)
  have he : ∀ a b : Int, prEq [.int a, .int b] = some (false, .bl (decide (a = b))) := fun _ _ => rfl
  by_cases hx : x = 0
  · obtain ⟨y, j2, hd2, q0, q1, h2⟩ := draw_ok (top := 6) h1 (by decide) (by decide) (by omega)
    have e1 : (7 : Int) + y = ((7 + y.toNat : Nat) : Int) := by omega
    refine ⟨7 + y.toNat, j2, by omega, ?_, h2⟩
    rw [← e1]
    subst hx
    simp [sizeE, seqOf, sSeq, sAsgR, sIf, sSet, sRet, sNx, sDrop, evO, evOs, vals, getAll, Hd.get, eP, eC, p1, p2, qP, qR, qC, gtR_eq, gt, nthR_eq, setR_eq, eVarR, asgR, tPf, tAn, tOo, tNo, tTr, tTv, truD, fIf, fPrim, fPrimV, fSl, evP, slD, restR, wipeR, fCall, fCallI, fMake, fAndV, fNotV, i_lt, i_le, i_gt, i_ge, i_add, i_sub, i_eq, i_ne, hd, hd2]
  · obtain ⟨y, j2, hd2, q0, q1, h2⟩ := draw_ok (top := 7) h1 (by decide) (by decide) (by omega)
    have e1 : y = ((y.toNat : Nat) : Int) := by omega
    refine ⟨y.toNat, j2, by omega, ?_, h2⟩
    rw [← e1]
    simp [sizeE, seqOf, sSeq, sAsgR, sIf, sSet, sRet, sNx, sDrop, evO, evOs, vals, getAll, Hd.get, eP, eC, p1, p2, qP, qR, qC, gtR_eq, gt, nthR_eq, setR_eq, eVarR, asgR, tPf, tAn, tOo, tNo, tTr, tTv, truD, fIf, fPrim, fPrimV, fSl, evP, slD, restR, wipeR, fCall, fCallI, fMake, fAndV, fNotV, i_lt, i_le, i_gt, i_ge, i_add, i_sub, i_eq, i_ne, hd, hd2, hx]
abbrev menuE : EF := (fLcR [11] (iSeq (fCall (m_law_lists 14) [(.e (eVarR 3)), (.e (eVarR 3))])) (.n 11) (tOo (tPf (p2 prLt (qR 3) (qC (.int 9)))) (tPf (p2 prLt (qP (p1 prLenQ (qR 11))) (qC (.int 5))))) (eVarR 11))
theorem menuE_ok {n : Nat} (hn : n < 13) (A B C E F G H I J M : Sl) : menuE [A, B, C, some (.fz, .int (n : Nat)), E, F, G, H, I, J, M, none, none] = .ok true (.lst ((N14.menu n).map tup)) [A, B, C, some (.fz, .int (n : Nat)), E, F, G, H, I, J, M, none, none] := by
  have hl := lists_ok hn
  have hF : iSeq (fCall (m_law_lists 14) [(.e (eVarR 3)), (.e (eVarR 3))]) [A, B, C, some (.fz, .int (n : Nat)), E, F, G, H, I, J, M, none, none] = .ok ((partsN 14 n n).map tup) [A, B, C, some (.fz, .int (n : Nat)), E, F, G, H, I, J, M, none, none] := by
    generalize (partsN 14 n n).map tup = T at *
    simp [iSeq, seqOf, sSeq, sAsgR, sIf, sSet, sRet, sNx, sDrop, evO, evOs, vals, getAll, Hd.get, eP, eC, p1, p2, qP, qR, qC, gtR_eq, gt, nthR_eq, setR_eq, eVarR, asgR, tPf, tAn, tOo, tNo, tTr, tTv, truD, fIf, fPrim, fPrimV, fSl, evP, slD, restR, wipeR, fCall, fCallI, fMake, fAndV, fNotV, i_lt, i_le, i_gt, i_ge, i_add, i_sub, i_eq, i_ne, hl]
  refine fLcR_same tup (fun t => decide (n < 9) || decide (t.length < 5)) tup (xs := partsN 14 n n) hF rfl (by have := (size_ok hn).2.1; omega) rfl rfl fun t _ => ⟨_, rfl, ?_, fun _ => ⟨false, rfl⟩, rfl⟩
  have hln : prLenQ [tup t] = some (false, .int (t.length : Nat)) := by unfold tup; rw [l_tup, List.length_map]
  generalize tup t = T at *
  by_cases h : n < 9
  · have h' : ((n : Nat) : Int) < 9 := by omega
    simp [seqOf, sSeq, sAsgR, sIf, sSet, sRet, sNx, sDrop, evO, evOs, vals, getAll, Hd.get, eP, eC, p1, p2, qP, qR, qC, gtR_eq, gt, nthR_eq, setR_eq, eVarR, asgR, tPf, tAn, tOo, tNo, tTr, tTv, truD, fIf, fPrim, fPrimV, fSl, evP, slD, restR, wipeR, fCall, fCallI, fMake, fAndV, fNotV, i_lt, i_le, i_gt, i_ge, i_add, i_sub, i_eq, i_ne, h, h']
  · have h' : ¬ ((n : Nat) : Int) < 9 := by omega
    by_cases h2 : t.length < 5
    · have h2' : ((t.length : Nat) : Int) < 5 := by omega
      simp [seqOf, sSeq, sAsgR, sIf, sSet, sRet, sNx, sDrop, evO, evOs, vals, getAll, Hd.get, eP, eC, p1, p2, qP, qR, qC, gtR_eq, gt, nthR_eq, setR_eq, eVarR, asgR, tPf, tAn, tOo, tNo, tTr, tTv, truD, fIf, fPrim, fPrimV, fSl, evP, slD, restR, wipeR, fCall, fCallI, fMake, fAndV, fNotV, i_lt, i_le, i_gt, i_ge, i_add, i_sub, i_eq, i_ne, h, h', hln, h2, h2']
    · have h2' : ¬ ((t.length : Nat) : Int) < 5 := by omega
      simp [seqOf, sSeq, sAsgR, sIf, sSet, sRet, sNx, sDrop, evO, evOs, vals, getAll, Hd.get, eP, eC, p1, p2, qP, qR, qC, gtR_eq, gt, nthR_eq, setR_eq, eVarR, asgR, tPf, tAn, tOo, tNo, tTr, tTv, truD, fIf, fPrim, fPrimV, fSl, evP, slD, restR, wipeR, fCall, fCallI, fMake, fAndV, fNotV, i_lt, i_le, i_gt, i_ge, i_add, i_sub, i_eq, i_ne, h, h', hln, h2, h2']
theorem pick_mu {N : Nat} {j : D} (h : JarOk N j) (hN : N < 900000) {n : Nat} (hn : n < 13) : ∃ mu j', mu ∈ N14.menu n ∧ m_law_pick [j, .lst ((N14.menu n).map tup)] = .ok false (tup mu) j' ∧ JarOk (N + 1) j' := by
  have hz := size_ok hn
  have hle : (N14.menu n).length ≤ (partsN 14 n n).length := List.length_filter_le _ _
  obtain ⟨d, j', hd, he, hj⟩ := pick_ok h (by omega) ((N14.menu n).map tup) (by rw [List.length_map]; exact hz.2.2.1) (by rw [List.length_map]; omega)
  obtain ⟨S, hS, rfl⟩ := List.mem_map.mp hd
  exact ⟨S, j', hS, he, hj⟩
theorem pick_S {N : Nat} {j : D} (h : JarOk N j) (hN : N < 900000) {n : Nat} (hn : n < 13) : ∃ S j', S ∈ partsN 14 n n ∧ m_law_pick [j, .lst ((partsN 14 n n).map tup)] = .ok false (tup S) j' ∧ JarOk (N + 1) j' := by
  have hz := size_ok hn
  obtain ⟨d, j', hd, he, hj⟩ := pick_ok h (by omega) ((partsN 14 n n).map tup) (by rw [List.length_map]; exact hz.1) (by rw [List.length_map]; omega)
  obtain ⟨S, hS, rfl⟩ := List.mem_map.mp hd
  exact ⟨S, j', hS, he, hj⟩
abbrev bodyS : SF := (sIf (tNo (tTr (.e (fCallI m_law_trace_told 1 [(.e (eVarR 5)), (.e (fCallI m_law_pick 1 [(.e (eVarR 4))]))])))) (sRet (eC (.bl false))) sNx)
theorem loopSt (PS : Pairs) {n : Nat} (hn : n < 13) {S : List Nat} (hS : S ∈ partsN 14 n n) (A C Z7 Z8 Z9 Z10 : Sl) {N : Nat} {j : D} (h : JarOk N j) (hN : N < 400000) (x6 : Sl) (fl : Fl) (hfl : fl = .fz ∨ fl = .ow) : ∃ j' y6, loopR (.n 6) bodyS ((List.range 3).map iD) [A, some (.ow, j), C, some (.fz, .int (n : Nat)), some (fl, .lst ((N14.menu n).map tup)), some (.fz, tup S), x6, Z7, Z8, Z9, Z10, none, none] =
    .nx [A, some (.ow, j'), C, some (.fz, .int (n : Nat)), some (.fz, .lst ((N14.menu n).map tup)), some (.fz, tup S), y6, Z7, Z8, Z9, Z10, none, none] ∧ JarOk (N + 3000) j' := by
  have step : ∀ (N : Nat) (j : D) (x6 : Sl) (fl : Fl), (fl = .fz ∨ fl = .ow) → JarOk N j → N < 500000 → ∃ j', bodyS [A, some (.ow, j), C, some (.fz, .int (n : Nat)), some (fl, .lst ((N14.menu n).map tup)), some (.fz, tup S), x6, Z7, Z8, Z9, Z10, none, none] =
    .nx [A, some (.ow, j'), C, some (.fz, .int (n : Nat)), some (.fz, .lst ((N14.menu n).map tup)), some (.fz, tup S), x6, Z7, Z8, Z9, Z10, none, none] ∧ JarOk (N + 1000) j' := fun N j x6 fl hfl h hN => by
    obtain ⟨mu, j1, hmu, he, h1⟩ := pick_mu h (by omega) hn
    obtain ⟨j2, ht, h2⟩ := told_ok (PS n hn S hS mu hmu) h1 (by omega)
    refine ⟨j2, ?_, h2.mono (by omega)⟩
    generalize (N14.menu n).map tup = T at *
    generalize tup S = U at *
    generalize tup mu = V at *
    rcases hfl with hfl | hfl <;> subst hfl <;> simp [bodyS, seqOf, sSeq, sAsgR, sIf, sSet, sRet, sNx, sDrop, evO, evOs, vals, getAll, Hd.get, eP, eC, p1, p2, qP, qR, qC, gtR_eq, gt, nthR_eq, setR_eq, eVarR, asgR, tPf, tAn, tOo, tNo, tTr, tTv, truD, fIf, fPrim, fPrimV, fSl, evP, slD, restR, wipeR, fCall, fCallI, fMake, fAndV, fNotV, i_lt, i_le, i_gt, i_ge, i_add, i_sub, i_eq, i_ne, he, ht]
  obtain ⟨j1, e1, k1⟩ := step N j (some (.fz, .int 0)) fl hfl h (by omega)
  obtain ⟨j2, e2, k2⟩ := step _ j1 (some (.fz, .int 1)) .fz (.inl rfl) k1 (by omega)
  obtain ⟨j3, e3, k3⟩ := step _ j2 (some (.fz, .int 2)) .fz (.inl rfl) k2 (by omega)
  refine ⟨j3, some (.fz, .int 2), ?_, k3.mono (by omega)⟩
  have hrl : (List.range 3).map iD = [.int 0, .int 1, .int 2] := rfl
  rw [hrl]
  clear step h k1 k2 k3
  generalize bodyS = bs at *
  generalize (N14.menu n).map tup = T at *
  generalize tup S = U at *
  simp [loopR_cons, asgR, setR_eq, e1, e2, e3]
  rfl
abbrev onesE : EF := (fPrim prTuple [(.e (fLcR [12] (iRng [(.v 3)]) (.n 12) tYe (eC (.int 1))))])
theorem onesE_ok {n : Nat} (hn : n < 13) (A B C E F G H I J M : Sl) : onesE [A, B, C, some (.fz, .int (n : Nat)), E, F, G, H, I, J, M, none, none] = .ok false (tup (ones n)) [A, B, C, some (.fz, .int (n : Nat)), E, F, G, H, I, J, M, none, none] := by
  have hF := iRng_nat (o := .v 3) (ρ := [A, B, C, some (.fz, .int (n : Nat)), E, F, G, H, I, J, M, none, none]) (h := .sl 3) (n := n) rfl rfl (by omega)
  have hc := fLcR_same (vs := [12]) (F := iRng [(.v 3)]) (t := .n 12) (c := tYe) (el := eC (.int 1)) iD (fun _ => true) (fun _ => iD 1) (xs := List.range n) hF rfl (by rw [List.length_range]; omega) rfl rfl (fun i _ => ⟨_, rfl, rfl, fun _ => ⟨false, rfl⟩, rfl⟩)
  rw [List.filter_eq_self.mpr fun _ _ => rfl] at hc
  have e : (List.range n).map (fun _ => iD 1) = (ones n).map iD := by
    unfold ones
    rw [List.map_replicate]
    exact List.ext_getElem (by simp) (by simp)
  rw [e] at hc
  have ht : tup (ones n) = .tup ((ones n).map iD) := rfl
  rw [ht]
  generalize (ones n).map iD = T at *
  simp [onesE, seqOf, sSeq, sAsgR, sIf, sSet, sRet, sNx, sDrop, evO, evOs, vals, getAll, Hd.get, eP, eC, p1, p2, qP, qR, qC, gtR_eq, gt, nthR_eq, setR_eq, eVarR, asgR, tPf, tAn, tOo, tNo, tTr, tTv, truD, fIf, fPrim, fPrimV, fSl, evP, slD, restR, wipeR, fCall, fCallI, fMake, fAndV, fNotV, i_lt, i_le, i_gt, i_ge, i_add, i_sub, i_eq, i_ne, hc, prTuple]
end
end Law_k14
/-! part Lx -/
set_option Elab.async false
set_option linter.all false
set_option maxRecDepth 1000000
set_option maxHeartbeats 4000000
/-! Lx: one turn of the law of k14, the law -/
namespace Law_k14
open PySem L2 Pf
noncomputable section
abbrev ifF : SF := (sIf (tAn (tPf (p2 prLt (qR 3) (qC (.int 9)))) (tOo (tNo (tTr (.e (fCallI m_law_trace_told 1 [(.e (eVarR 5)), (.e (eVarR 7))])))) (tNo (tTr (.e (fCall (m_law_like 4) [(.e (fCall m_trace [(.e (fCallI m_law_shape_in 1 [(.e (eVarR 5))])), (.e (eP (p1 prList (qR 7))))])), (.e (fCall m_law_count [(.e (eVarR 5))]))])))))) (sRet (eC (.bl false))) sNx)
theorem ifF_ok (PS : Pairs) {n : Nat} (hn : n < 13) {S : List Nat} (hS : S ∈ partsN 14 n n) (A C E G Z8 Z9 Z10 : Sl) {N : Nat} {j : D} (h : JarOk N j) (hN : N < 500000) : ∃ j', ifF [A, some (.ow, j), C, some (.fz, .int (n : Nat)), E, some (.fz, tup S), G, some (.fz, tup (ones n)), Z8, Z9, Z10, none, none] =
    .nx [A, some (.ow, j'), C, some (.fz, .int (n : Nat)), E, some (.fz, tup S), G, some (.fz, tup (ones n)), Z8, Z9, Z10, none, none] ∧ JarOk (N + 1000) j' := by
  by_cases h9 : n < 9
  · have hon : ones n ∈ N14.menu n := by
      obtain ⟨mu, hmu, e⟩ := List.any_eq_true.mp (List.all_eq_true.mp ones_all n (List.mem_range.mpr h9))
      rw [N14.beqL_iff] at e
      have e := of_decide_eq_true e
      subst e; exact hmu
    have P := PS n hn S hS (ones n) hon
    obtain ⟨j1, ht, h1⟩ := told_ok P h (by omega)
    obtain ⟨fl2, X2, j2, hs2, f2, h2⟩ := shape_in_ok P.o h1 (by omega)
    have ht2 : m_trace [X2, .lst ((ones n).map iD)] = .ok false (.int (bkV S (ones n))) .non := trace_ok P.o f2 true (List.Perm.refl _) P.fall P.sum P.bk
    have hc := cnt_ok h9 hS
    have hlk : ∀ i : Int, m_law_like 4 [.int i, .int i] = .ok false (.bl true) .non := fun i => by
      have := like_int 3 i i
      simpa using this
    have hl : prList [tup (ones n)] = some (true, .lst ((ones n).map iD)) := rfl
    have h' : ((n : Nat) : Int) < 9 := by omega
    refine ⟨j2, ?_, h2.mono (by omega)⟩
    generalize (ones n).map iD = L at *
    generalize tup (ones n) = V at *
    generalize tup S = U at *
    simp [ifF, seqOf, sSeq, sAsgR, sIf, sSet, sRet, sNx, sDrop, evO, evOs, vals, getAll, Hd.get, eP, eC, p1, p2, qP, qR, qC, gtR_eq, gt, nthR_eq, setR_eq, eVarR, asgR, tPf, tAn, tOo, tNo, tTr, tTv, truD, fIf, fPrim, fPrimV, fSl, evP, slD, restR, wipeR, fCall, fCallI, fMake, fAndV, fNotV, i_lt, i_le, i_gt, i_ge, i_add, i_sub, i_eq, i_ne, h', ht, hs2, hl, ht2, hc, hlk]
  · have h' : ¬ ((n : Nat) : Int) < 9 := by omega
    refine ⟨j, ?_, h.mono (by omega)⟩
    generalize tup (ones n) = V at *
    generalize tup S = U at *
    simp [ifF, seqOf, sSeq, sAsgR, sIf, sSet, sRet, sNx, sDrop, evO, evOs, vals, getAll, Hd.get, eP, eC, p1, p2, qP, qR, qC, gtR_eq, gt, nthR_eq, setR_eq, eVarR, asgR, tPf, tAn, tOo, tNo, tTr, tTv, truD, fIf, fPrim, fPrimV, fSl, evP, slD, restR, wipeR, fCall, fCallI, fMake, fAndV, fNotV, i_lt, i_le, i_gt, i_ge, i_add, i_sub, i_eq, i_ne, h']
abbrev farE : EF := (fPrim prAdd [(.e (fPrim prList [(.e (fCallI m_law_pick 1 [(.e (eVarR 4))]))])), (.e (fPrimV prLst [(.e (fPrim prAdd [(.e (eC (.int 1))), (.e (fCallI m_law_draw 1 [(.e (eC (.int 3)))]))]))]))])
theorem farE_ok {n : Nat} (hn : n < 13) (A C D' F G H Z8 Z9 Z10 : Sl) {N : Nat} {j : D} (h : JarOk N j) (hN : N < 500000) : ∃ j' hd, hd.sum ≠ n ∧ farE [A, some (.ow, j), C, D', some (.fz, .lst ((N14.menu n).map tup)), F, G, H, Z8, Z9, Z10, none, none] =
    .ok true (.lst (List.map iD hd)) [A, some (.ow, j'), C, D', some (.fz, .lst ((N14.menu n).map tup)), F, G, H, Z8, Z9, Z10, none, none] ∧ JarOk (N + 2) j' := by
  obtain ⟨mu, j1, hmu, he, h1⟩ := pick_mu h (by omega) hn
  obtain ⟨r, j2, hd, r0, r1, h2⟩ := draw_ok (top := 3) h1 (by decide) (by decide) (by omega)
  obtain ⟨hsum, _⟩ := (size_ok hn).2.2.2 mu (menu_sub hmu)
  have hlen := (sh_ok (mem_all hn (menu_sub hmu))).g.len
  refine ⟨j2, mu ++ [1 + r.toNat], by rw [List.sum_append, hsum]; simp, ?_, h2⟩
  have e1 : (1 : Int) + r = ((1 + r.toNat : Nat) : Int) := by omega
  have hl : prList [tup mu] = some (true, .lst (mu.map iD)) := rfl
  have ha : prAdd [.lst (mu.map iD), .lst [.int (1 + r)]] = some (true, .lst ((mu ++ [1 + r.toNat]).map iD)) := by
    show (if (mu.map iD).length + 1 ≤ 100000 then some (true, D.lst (mu.map iD ++ [.int (1 + r)])) else none) = _
    rw [if_pos (by rw [List.length_map]; omega), e1, List.map_append]; try rfl
  generalize (mu ++ [1 + r.toNat]).map iD = Y at *
  generalize (N14.menu n).map tup = T at *
  generalize mu.map iD = M at *
  generalize tup mu = V at *
  simp [farE, seqOf, sSeq, sAsgR, sIf, sSet, sRet, sNx, sDrop, evO, evOs, vals, getAll, Hd.get, eP, eC, p1, p2, qP, qR, qC, gtR_eq, gt, nthR_eq, setR_eq, eVarR, asgR, tPf, tAn, tOo, tNo, tTr, tTv, truD, fIf, fPrim, fPrimV, fSl, evP, slD, restR, wipeR, fCall, fCallI, fMake, fAndV, fNotV, i_lt, i_le, i_gt, i_ge, i_add, i_sub, i_eq, i_ne, he, hl, hd, prLst, ha]
abbrev ref1 : EF := (fGive [8, 9] (fCall m_trace [(.e (eVarR 9)), (.e (eVarR 8))]) m_law_refused [(.e (fPrimV prLst [(.e (eC (.str "Unlike"))), (.e (eC (.str "size")))]))])
theorem ref1_ok {S hd : List Nat} {X : D} (o : Sh S) (f : Form S X) (hs : hd.sum ≠ S.sum) (fl8 fl9 : Fl) (h8 : fl8 = .fz ∨ fl8 = .ow) (h9 : fl9 = .fz ∨ fl9 = .ow) (A B C D' E F G H Z10 : Sl) :
    ref1 [A, B, C, D', E, F, G, H, some (fl8, .lst (hd.map iD)), some (fl9, X), Z10, none, none] = .ok false (.bl true) [A, B, C, D', E, F, G, H, some (.fz, .lst (hd.map iD)), some (.fz, X), Z10, none, none] := by
  have ht : m_trace [X, .lst (hd.map iD)] = .ex (.ins 1 [.str "size"]) .non := trace_ex o f true hs
  have hr := refused_ok
  generalize hd.map iD = L at *
  have hm : maskV [8, 9] [A, B, C, D', E, F, G, H, some (.fz, .lst L), some (.fz, X), Z10, none, none] = [none, none, none, none, none, none, none, none, some (.fz, .lst L), some (.fz, X), none, none, none] := rfl
  have hp : plainL [.lst [.str "Unlike", .str "size"]] = true := by simp [plainL, plainD]
  rcases h8 with h8 | h8 <;> rcases h9 with h9 | h9 <;> subst h8 <;> subst h9 <;> simp [ref1, fGive, frzV, seqOf, sSeq, sAsgR, sIf, sSet, sRet, sNx, sDrop, evO, evOs, vals, getAll, Hd.get, eP, eC, p1, p2, qP, qR, qC, gtR_eq, gt, nthR_eq, setR_eq, eVarR, asgR, tPf, tAn, tOo, tNo, tTr, tTv, truD, fIf, fPrim, fPrimV, fSl, evP, slD, restR, wipeR, fCall, fCallI, fMake, fAndV, fNotV, i_lt, i_le, i_gt, i_ge, i_add, i_sub, i_eq, i_ne, prLst, hm, ht, finE, hr, hp, plainD]
abbrev ref2 : EF := (fGive [9, 10] (fCall m_trace [(.e (eVarR 9)), (.e (eVarR 10))]) m_law_refused [(.e (fPrimV prLst [(.e (eC (.str "Unlike"))), (.e (eC (.str "size")))]))])
theorem ref2_ok {S hd : List Nat} {X : D} (o : Sh S) (f : Form S X) (hs : hd.sum ≠ S.sum) (A B C D' E F G H Z8 : Sl) :
    ref2 [A, B, C, D', E, F, G, H, Z8, some (.fz, X), some (.ow, .lst (hd.map iD)), none, none] = .ok false (.bl true) [A, B, C, D', E, F, G, H, Z8, some (.fz, X), some (.fz, .lst (hd.map iD)), none, none] := by
  have ht : m_trace [X, .lst (hd.map iD)] = .ex (.ins 1 [.str "size"]) .non := trace_ex o f true hs
  have hr := refused_ok
  generalize hd.map iD = L at *
  have hm : maskV [9, 10] [A, B, C, D', E, F, G, H, Z8, some (.fz, X), some (.fz, .lst L), none, none] = [none, none, none, none, none, none, none, none, none, some (.fz, X), some (.fz, .lst L), none, none] := rfl
  have hp : plainL [.lst [.str "Unlike", .str "size"]] = true := by simp [plainL, plainD]
  simp [ref2, fGive, frzV, seqOf, sSeq, sAsgR, sIf, sSet, sRet, sNx, sDrop, evO, evOs, vals, getAll, Hd.get, eP, eC, p1, p2, qP, qR, qC, gtR_eq, gt, nthR_eq, setR_eq, eVarR, asgR, tPf, tAn, tOo, tNo, tTr, tTv, truD, fIf, fPrim, fPrimV, fSl, evP, slD, restR, wipeR, fCall, fCallI, fMake, fAndV, fNotV, i_lt, i_le, i_gt, i_ge, i_add, i_sub, i_eq, i_ne, prLst, hm, ht, finE, hr, hp, plainD]
abbrev bodyTurn : SF := (sSeq (sAsgR (.n 3) sizeE)
    (sSeq (sAsgR (.n 4) menuE)
    (sSeq (sAsgR (.n 5) (fCallI m_law_pick 1 [(.e (fCall (m_law_lists 14) [(.e (eVarR 3)), (.e (eVarR 3))]))]))
    (sSeq (sForR (.n 6) (iRng [(.e (eC (.int 3)))]) bodyS)
    (sSeq (sAsgR (.n 7) onesE)
    (sSeq ifF
    (sSeq (sAsgR (.n 8) farE)
    (sSeq (sAsgR (.n 9) (fCallI m_law_shape_in 1 [(.e (eVarR 5))]))
    (sSeq (sIf (tNo (tTr (.e ref1))) (sRet (eC (.bl false))) sNx)
    (sSeq (sAsgR (.n 10) (fSl (.v 8) (some (.e (eC (.int 1)))) none))
    (sIf (tAn (tPf (p2 prNe (qP (p1 prSum (qR 10))) (qR 3))) (tNo (tTr (.e ref2)))) (sRet (eC (.bl false))) sNx)))))))))))
theorem turn_ok (PS : Pairs) {N : Nat} {j : D} (h : JarOk N j) (hN : N < 300000) (A C : Sl) (x3 x4 x5 x6 x7 x8 x9 x10 : Sl) : ∃ j' y3 y4 y5 y6 y7 y8 y9 y10,
    bodyTurn [A, some (.ow, j), C, x3, x4, x5, x6, x7, x8, x9, x10, none, none] = .nx [A, some (.ow, j'), C, y3, y4, y5, y6, y7, y8, y9, y10, none, none] ∧ JarOk (N + 10000) j' := by
  obtain ⟨n, j1, hn, e1, h1⟩ := sizeE_ok h (by omega) A [C, x3, x4, x5, x6, x7, x8, x9, x10, none, none]
  have e2 := menuE_ok hn A (some (.ow, j1)) C x4 x5 x6 x7 x8 x9 x10
  obtain ⟨S, j2, hS, e3, h2⟩ := pick_S h1 (by omega) hn
  have hl := lists_ok hn
  have o := sh_ok (mem_all hn hS)
  obtain ⟨hsumS, _⟩ := (size_ok hn).2.2.2 S hS
  obtain ⟨j3, y6, e4, h3⟩ := loopSt PS hn hS A C x7 x8 x9 x10 h2 (by omega) x6 .ow (.inr rfl)
  have hr := iRng_nat (o := .e (eC (.int 3))) (ρ := [A, some (.ow, j2), C, some (.fz, .int (n : Nat)), some (.ow, .lst ((N14.menu n).map tup)), some (.fz, tup S), x6, x7, x8, x9, x10, none, none]) (h := .val (.int ((3 : Nat) : Int))) (ρ1 := [A, some (.ow, j2), C, some (.fz, .int (n : Nat)), some (.ow, .lst ((N14.menu n).map tup)), some (.fz, tup S), x6, x7, x8, x9, x10, none, none]) (n := 3) rfl rfl (by decide)
  have e5 := onesE_ok hn A (some (.ow, j3)) C (some (.fz, .lst ((N14.menu n).map tup))) (some (.fz, tup S)) y6 x7 x8 x9 x10
  obtain ⟨j4, e6, h4⟩ := ifF_ok PS hn hS A C (some (.fz, .lst ((N14.menu n).map tup))) y6 x8 x9 x10 h3 (by omega)
  obtain ⟨j5, hd, hne, e7, h5⟩ := farE_ok hn A C (some (.fz, .int (n : Nat))) (some (.fz, tup S)) y6 (some (.fz, tup (ones n))) x8 x9 x10 h4 (by omega)
  obtain ⟨flX, X, j6, e8, fX, h6⟩ := shape_in_ok o h5 (by omega)
  have e9 := ref1_ok o fX (hd := hd) (by rw [hsumS]; exact hne) .ow (if flX = true then .ow else .fz) (.inr rfl) (by cases flX <;> simp) A (some (.ow, j6)) C (some (.fz, .int (n : Nat))) (some (.fz, .lst ((N14.menu n).map tup))) (some (.fz, tup S)) y6 (some (.fz, tup (ones n))) x10
  have e10 : ∀ r : Ve, cutA (hd.map iD) (some 1) none = (hd.drop 1).map iD := fun _ => by
    have := cut_from (hd.map iD) 1
    rw [List.map_drop]; exact this
  have e10 := e10 []
  have hsl : ∀ ρ : Ve, True := fun _ => trivial
  have hsm := sumL (hd.drop 1)
  have k6 := h6.mono (M := N + 10000) (by omega)
  have fin : ∃ y10, (sIf (tAn (tPf (p2 prNe (qP (p1 prSum (qR 10))) (qR 3))) (tNo (tTr (.e ref2)))) (sRet (eC (.bl false))) sNx) [A, some (.ow, j6), C, some (.fz, .int (n : Nat)), some (.fz, .lst ((N14.menu n).map tup)), some (.fz, tup S), y6, some (.fz, tup (ones n)), some (.fz, .lst (hd.map iD)), some (.fz, X), some (.ow, .lst ((hd.drop 1).map iD)), none, none] = .nx [A, some (.ow, j6), C, some (.fz, .int (n : Nat)), some (.fz, .lst ((N14.menu n).map tup)), some (.fz, tup S), y6, some (.fz, tup (ones n)), some (.fz, .lst (hd.map iD)), some (.fz, X), y10, none, none] := by
    by_cases hh : (hd.drop 1).sum = n
    · refine ⟨some (.ow, .lst ((hd.drop 1).map iD)), ?_⟩
      rw [hh] at hsm
      generalize (hd.drop 1).map iD = L at *
      generalize hd.map iD = L2 at *
      generalize (N14.menu n).map tup = T at *
      generalize tup S = U at *
      generalize tup (ones n) = V at *
      simp [seqOf, sSeq, sAsgR, sIf, sSet, sRet, sNx, sDrop, evO, evOs, vals, getAll, Hd.get, eP, eC, p1, p2, qP, qR, qC, gtR_eq, gt, nthR_eq, setR_eq, eVarR, asgR, tPf, tAn, tOo, tNo, tTr, tTv, truD, fIf, fPrim, fPrimV, fSl, evP, slD, restR, wipeR, fCall, fCallI, fMake, fAndV, fNotV, i_lt, i_le, i_gt, i_ge, i_add, i_sub, i_eq, i_ne, hsm]
    · refine ⟨some (.fz, .lst ((hd.drop 1).map iD)), ?_⟩
      have e11 := ref2_ok o fX (hd := hd.drop 1) (by rw [hsumS]; exact hh) A (some (.ow, j6)) C (some (.fz, .int (n : Nat))) (some (.fz, .lst ((N14.menu n).map tup))) (some (.fz, tup S)) y6 (some (.fz, tup (ones n))) (some (.fz, .lst (hd.map iD)))
      have hh' : ¬ (((hd.drop 1).sum : Nat) : Int) = (n : Nat) := by omega
      generalize (hd.drop 1).sum = z at *
      generalize ref2 = rr at *
      generalize (hd.drop 1).map iD = L at *
      generalize hd.map iD = L2 at *
      generalize (N14.menu n).map tup = T at *
      generalize tup S = U at *
      generalize tup (ones n) = V at *
      simp [seqOf, sSeq, sAsgR, sIf, sSet, sRet, sNx, sDrop, evO, evOs, vals, getAll, Hd.get, eP, eC, p1, p2, qP, qR, qC, gtR_eq, gt, nthR_eq, setR_eq, eVarR, asgR, tPf, tAn, tOo, tNo, tTr, tTv, truD, fIf, fPrim, fPrimV, fSl, evP, slD, restR, wipeR, fCall, fCallI, fMake, fAndV, fNotV, i_lt, i_le, i_gt, i_ge, i_add, i_sub, i_eq, i_ne, hsm, hh', e11]
  obtain ⟨y10, e12⟩ := fin
  refine ⟨j6, some (.fz, .int (n : Nat)), some (.fz, .lst ((N14.menu n).map tup)), some (.fz, tup S), y6, some (.fz, tup (ones n)), some (.fz, .lst (hd.map iD)), some (.fz, X), y10, ?_, k6⟩
  have hb : bodyTurn = (sSeq (sAsgR (.n 3) sizeE)
    (sSeq (sAsgR (.n 4) menuE)
    (sSeq (sAsgR (.n 5) (fCallI m_law_pick 1 [(.e (fCall (m_law_lists 14) [(.e (eVarR 3)), (.e (eVarR 3))]))]))
    (sSeq (sForR (.n 6) (iRng [(.e (eC (.int 3)))]) bodyS)
    (sSeq (sAsgR (.n 7) onesE)
    (sSeq ifF
    (sSeq (sAsgR (.n 8) farE)
    (sSeq (sAsgR (.n 9) (fCallI m_law_shape_in 1 [(.e (eVarR 5))]))
    (sSeq (sIf (tNo (tTr (.e ref1))) (sRet (eC (.bl false))) sNx)
    (sSeq (sAsgR (.n 10) (fSl (.v 8) (some (.e (eC (.int 1)))) none))
    (sIf (tAn (tPf (p2 prNe (qP (p1 prSum (qR 10))) (qR 3))) (tNo (tTr (.e ref2)))) (sRet (eC (.bl false))) sNx))))))))))) := rfl
  rw [hb]
  clear hb hsl hsm PS
  generalize (sIf (tAn (tPf (p2 prNe (qP (p1 prSum (qR 10))) (qR 3))) (tNo (tTr (.e ref2)))) (sRet (eC (.bl false))) sNx) = s11 at *
  generalize sizeE = sz at *
  generalize menuE = me at *
  generalize bodyS = bs at *
  generalize onesE = oe at *
  generalize ifF = ff at *
  generalize farE = fe at *
  generalize ref1 = r1 at *
  generalize (List.range 3).map iD = R3 at *
  generalize (hd.drop 1).map iD = L at *
  generalize hd.map iD = L2 at *
  generalize (partsN 14 n n).map tup = PP at *
  generalize (N14.menu n).map tup = T at *
  generalize tup S = U at *
  generalize tup (ones n) = V at *
  cases flX <;> simp [seqOf, sSeq, sAsgR, sIf, sSet, sRet, sNx, sDrop, evO, evOs, vals, getAll, Hd.get, eP, eC, p1, p2, qP, qR, qC, gtR_eq, gt, nthR_eq, setR_eq, eVarR, asgR, tPf, tAn, tOo, tNo, tTr, tTv, truD, fIf, fPrim, fPrimV, fSl, evP, slD, restR, wipeR, fCall, fCallI, fMake, fAndV, fNotV, i_lt, i_le, i_gt, i_ge, i_add, i_sub, i_eq, i_ne, e1, e2, hl, e3, sForR, hr, e4, e5, e6, e7, e8] <;> simp at e9 <;> simp [e9, e10, e12, truD]
theorem turns_ok (PS : Pairs) (A : Sl) : ∀ (ts : List Nat) (N : Nat) (j : D) (x2 x3 x4 x5 x6 x7 x8 x9 x10 : Sl), JarOk N j → N + 10000 * ts.length < 200000 →
    ∃ j' y2 y3 y4 y5 y6 y7 y8 y9 y10, loopR (.n 2) bodyTurn (ts.map iD) [A, some (.ow, j), x2, x3, x4, x5, x6, x7, x8, x9, x10, none, none] = .nx [A, some (.ow, j'), y2, y3, y4, y5, y6, y7, y8, y9, y10, none, none] := by
  intro ts
  induction ts with
  | nil => intro N j x2 x3 x4 x5 x6 x7 x8 x9 x10 _ _; exact ⟨j, x2, x3, x4, x5, x6, x7, x8, x9, x10, rfl⟩
  | cons t ts ih =>
    intro N j x2 x3 x4 x5 x6 x7 x8 x9 x10 h hN
    rw [List.length_cons] at hN
    obtain ⟨j1, z3, z4, z5, z6, z7, z8, z9, z10, hb, h1⟩ := turn_ok PS h (by omega) A (some (.fz, iD t)) x3 x4 x5 x6 x7 x8 x9 x10
    obtain ⟨j', y2, y3, y4, y5, y6, y7, y8, y9, y10, hL⟩ := ih (N + 10000) j1 (some (.fz, iD t)) z3 z4 z5 z6 z7 z8 z9 z10 h1 (by omega)
    refine ⟨j', y2, y3, y4, y5, y6, y7, y8, y9, y10, ?_⟩
    rw [List.map_cons, loopR_cons, ← hL]
    generalize bodyTurn = bod at *
    simp [asgR, setR_eq, hb]
theorem end1 : m_trace [.str "-", .lst []] = .ok false (.int 1) .non := by kernel_rfl
theorem end2 : m_trace [.str "1", .lst [.int 1]] = .ok false (.int 1) .non := by kernel_rfl
theorem plain_of (PS : Pairs) (ns : List Int) : ∃ fl out, m_law [.rol (ns.map D.int)] = .ok fl (.bl true) out := by
  obtain ⟨j, hj, h⟩ := jar_ok ns
  obtain ⟨j', y2, y3, y4, y5, y6, y7, y8, y9, y10, hL⟩ := turns_ok PS (some (.fz, .rol (ns.map D.int))) (List.range 4) 0 j none none none none none none none none none h (by simp)
  have hr := iRng_nat (o := .e (eC (.int 4))) (ρ := [some (.fz, .rol (ns.map D.int)), some (.ow, j), none, none, none, none, none, none, none, none, none, none, none]) (h := .val (.int ((4 : Nat) : Int))) (ρ1 := [some (.fz, .rol (ns.map D.int)), some (.ow, j), none, none, none, none, none, none, none, none, none, none, none]) (n := 4) rfl rfl (by decide)
  have hlk : m_law_like 4 [.int 1, .int 1] = .ok false (.bl true) .non := by kernel_rfl
  have t1 := end1
  have t2 := end2
  refine ⟨false, .non, ?_⟩
  have hw : ∃ E : EF, w_law = (sSeq (sAsgR (.n 1) (fCall m_law_jar [(.e (eVarR 0))])) (sSeq (sForR (.n 2) (iRng [(.e (eC (.int 4)))]) bodyTurn) (sRet E))) ∧ ∀ ρ : Ve, E ρ = .ok false (.bl true) ρ := by
    refine ⟨_, rfl, fun ρ => ?_⟩
    simp [seqOf, sSeq, sAsgR, sIf, sSet, sRet, sNx, sDrop, evO, evOs, vals, getAll, Hd.get, eP, eC, p1, p2, qP, qR, qC, gtR_eq, gt, nthR_eq, setR_eq, eVarR, asgR, tPf, tAn, tOo, tNo, tTr, tTv, truD, fIf, fPrim, fPrimV, fSl, evP, slD, restR, wipeR, fCall, fCallI, fMake, fAndV, fNotV, i_lt, i_le, i_gt, i_ge, i_add, i_sub, i_eq, i_ne, prLst, t1, t2, hlk]
  obtain ⟨E, hw, hE⟩ := hw
  unfold m_law mF
  rw [hw]
  generalize bodyTurn = bod at *
  generalize (List.range 4).map iD = TT at *
  simp [startV, seqOf, sSeq, sAsgR, sIf, sSet, sRet, sNx, sDrop, evO, evOs, vals, getAll, Hd.get, eP, eC, p1, p2, qP, qR, qC, gtR_eq, gt, nthR_eq, setR_eq, eVarR, asgR, tPf, tAn, tOo, tNo, tTr, tTv, truD, fIf, fPrim, fPrimV, fSl, evP, slD, restR, wipeR, fCall, fCallI, fMake, fAndV, fNotV, i_lt, i_le, i_gt, i_ge, i_add, i_sub, i_eq, i_ne, hj, sForR, hr, hL, hE, finF]
end
end Law_k14
/-! part Nc -/
set_option Elab.async false
set_option linter.all false
set_option maxRecDepth 1000000
set_option maxHeartbeats 0
/-! Nc: the finite check of k14 -/
namespace N14
theorem cF0 : (fars 0).all (chkF 0) = true := by decide +kernel
theorem cF1 : (fars 1).all (chkF 1) = true := by decide +kernel
theorem cF2 : (fars 2).all (chkF 2) = true := by decide +kernel
theorem cF3 : (fars 3).all (chkF 3) = true := by decide +kernel
theorem cF4 : (fars 4).all (chkF 4) = true := by decide +kernel
theorem cF5 : (fars 5).all (chkF 5) = true := by decide +kernel
theorem cF6 : (fars 6).all (chkF 6) = true := by decide +kernel
theorem cF7 : (fars 7).all (chkF 7) = true := by decide +kernel
theorem cF8_1 : chkF 8 1 = true := by decide +kernel
theorem cF8_2 : chkF 8 2 = true := by decide +kernel
theorem cF8_3 : chkF 8 3 = true := by decide +kernel
theorem cF8_4 : chkF 8 4 = true := by decide +kernel
theorem cF8_5 : chkF 8 5 = true := by decide +kernel
theorem cF8_6 : chkF 8 6 = true := by decide +kernel
theorem cF8_7 : chkF 8 7 = true := by decide +kernel
theorem cF8_8 : chkF 8 8 = true := by decide +kernel
theorem cF8 : (fars 8).all (chkF 8) = true := by
  rw [show fars 8 = [1, 2, 3, 4, 5, 6, 7, 8] from rfl]
  simp only [List.all_cons, List.all_nil, cF8_1, cF8_2, cF8_3, cF8_4, cF8_5, cF8_6, cF8_7, cF8_8, Bool.and_self]
theorem cF9_1 : chkF 9 1 = true := by decide +kernel
theorem cF9_2 : chkF 9 2 = true := by decide +kernel
theorem cF9_3 : chkF 9 3 = true := by decide +kernel
theorem cF9_4 : chkF 9 4 = true := by decide +kernel
theorem cF9_5 : chkF 9 5 = true := by decide +kernel
theorem cF9_6 : chkF 9 6 = true := by decide +kernel
theorem cF9_7 : chkF 9 7 = true := by decide +kernel
theorem cF9_8 : chkF 9 8 = true := by decide +kernel
theorem cF9_9 : chkF 9 9 = true := by decide +kernel
theorem cF9 : (fars 9).all (chkF 9) = true := by
  rw [show fars 9 = [1, 2, 3, 4, 5, 6, 7, 8, 9] from rfl]
  simp only [List.all_cons, List.all_nil, cF9_1, cF9_2, cF9_3, cF9_4, cF9_5, cF9_6, cF9_7, cF9_8, cF9_9, Bool.and_self]
theorem cF10_1 : chkF 10 1 = true := by decide +kernel
theorem cF10_2 : chkF 10 2 = true := by decide +kernel
theorem cF10_3 : chkF 10 3 = true := by decide +kernel
theorem cF10_4 : chkF 10 4 = true := by decide +kernel
theorem cF10_5 : chkF 10 5 = true := by decide +kernel
theorem cF10_6 : chkF 10 6 = true := by decide +kernel
theorem cF10_7 : chkF 10 7 = true := by decide +kernel
theorem cF10_8 : chkF 10 8 = true := by decide +kernel
theorem cF10_9 : chkF 10 9 = true := by decide +kernel
theorem cF10_10 : chkF 10 10 = true := by decide +kernel
theorem cF10 : (fars 10).all (chkF 10) = true := by
  rw [show fars 10 = [1, 2, 3, 4, 5, 6, 7, 8, 9, 10] from rfl]
  simp only [List.all_cons, List.all_nil, cF10_1, cF10_2, cF10_3, cF10_4, cF10_5, cF10_6, cF10_7, cF10_8, cF10_9, cF10_10, Bool.and_self]
theorem cF11_1 : chkF 11 1 = true := by decide +kernel
theorem cF11_2 : chkF 11 2 = true := by decide +kernel
theorem cF11_3 : chkF 11 3 = true := by decide +kernel
theorem cF11_4 : chkF 11 4 = true := by decide +kernel
theorem cF11_5 : chkF 11 5 = true := by decide +kernel
theorem cF11_6 : chkF 11 6 = true := by decide +kernel
theorem cF11_7 : chkF 11 7 = true := by decide +kernel
theorem cF11_8 : chkF 11 8 = true := by decide +kernel
theorem cF11_9 : chkF 11 9 = true := by decide +kernel
theorem cF11_10 : chkF 11 10 = true := by decide +kernel
theorem cF11_11 : chkF 11 11 = true := by decide +kernel
theorem cF11 : (fars 11).all (chkF 11) = true := by
  rw [show fars 11 = [1, 2, 3, 4, 5, 6, 7, 8, 9, 10, 11] from rfl]
  simp only [List.all_cons, List.all_nil, cF11_1, cF11_2, cF11_3, cF11_4, cF11_5, cF11_6, cF11_7, cF11_8, cF11_9, cF11_10, cF11_11, Bool.and_self]
theorem cF12_1 : chkF 12 1 = true := by decide +kernel
theorem cF12_2 : chkF 12 2 = true := by decide +kernel
theorem cF12_3 : chkF 12 3 = true := by decide +kernel
theorem cF12_4 : chkF 12 4 = true := by decide +kernel
theorem cF12_5 : chkF 12 5 = true := by decide +kernel
theorem cF12_6 : chkF 12 6 = true := by decide +kernel
theorem cF12_7 : chkF 12 7 = true := by decide +kernel
theorem cF12_8 : chkF 12 8 = true := by decide +kernel
theorem cF12_9 : chkF 12 9 = true := by decide +kernel
theorem cF12_10 : chkF 12 10 = true := by decide +kernel
theorem cF12_11 : chkF 12 11 = true := by decide +kernel
theorem cF12_12 : chkF 12 12 = true := by decide +kernel
theorem cF12 : (fars 12).all (chkF 12) = true := by
  rw [show fars 12 = [1, 2, 3, 4, 5, 6, 7, 8, 9, 10, 11, 12] from rfl]
  simp only [List.all_cons, List.all_nil, cF12_1, cF12_2, cF12_3, cF12_4, cF12_5, cF12_6, cF12_7, cF12_8, cF12_9, cF12_10, cF12_11, cF12_12, Bool.and_self]
end N14
/-! part Nm -/
set_option Elab.async false
set_option linter.all false
set_option maxRecDepth 1000000
set_option maxHeartbeats 0
/-! Nm: the finite check of k14 -/
namespace N14
theorem cM0 : chkM 0 = true := by decide +kernel
theorem cM1 : chkM 1 = true := by decide +kernel
theorem cM2 : chkM 2 = true := by decide +kernel
theorem cM3 : chkM 3 = true := by decide +kernel
theorem cM4 : chkM 4 = true := by decide +kernel
theorem cM5 : chkM 5 = true := by decide +kernel
theorem cM6 : chkM 6 = true := by decide +kernel
theorem cM7 : chkM 7 = true := by decide +kernel
theorem cM8 : chkM 8 = true := by decide +kernel
theorem cM9 : chkM 9 = true := by decide +kernel
theorem cM10 : chkM 10 = true := by decide +kernel
theorem cM11 : chkM 11 = true := by decide +kernel
theorem cM12 : chkM 12 = true := by decide +kernel
end N14
/-! part Fin14s -/
set_option Elab.async false
set_option linter.all false
set_option maxRecDepth 1000000
set_option maxHeartbeats 4000000
namespace Law_k14
open PySem L2 Pf
noncomputable section
theorem pairs : Pairs := fun n hn S hS mu hm => by
  match n, hn, hS, hm with
  | 0, hn, hS, hm => exact pair_of hn N14.cF0 N14.cM0 hS hm
  | 1, hn, hS, hm => exact pair_of hn N14.cF1 N14.cM1 hS hm
  | 2, hn, hS, hm => exact pair_of hn N14.cF2 N14.cM2 hS hm
  | 3, hn, hS, hm => exact pair_of hn N14.cF3 N14.cM3 hS hm
  | 4, hn, hS, hm => exact pair_of hn N14.cF4 N14.cM4 hS hm
  | 5, hn, hS, hm => exact pair_of hn N14.cF5 N14.cM5 hS hm
  | 6, hn, hS, hm => exact pair_of hn N14.cF6 N14.cM6 hS hm
  | 7, hn, hS, hm => exact pair_of hn N14.cF7 N14.cM7 hS hm
  | 8, hn, hS, hm => exact pair_of hn N14.cF8 N14.cM8 hS hm
  | 9, hn, hS, hm => exact pair_of hn N14.cF9 N14.cM9 hS hm
  | 10, hn, hS, hm => exact pair_of hn N14.cF10 N14.cM10 hS hm
  | 11, hn, hS, hm => exact pair_of hn N14.cF11 N14.cM11 hS hm
  | 12, hn, hS, hm => exact pair_of hn N14.cF12 N14.cM12 hS hm
theorem plain_all (ns : List Int) (_ : ns.length ≤ 63) : ∃ fl out, m_law [.rol (ns.map D.int)] = .ok fl (.bl true) out := plain_of pairs ns
end
end Law_k14
set_option maxHeartbeats 4000000 in
theorem PySem.Challenge.cw_spinspans_k14_traces_beside_power_sums_holds : PySem.Challenge.rw_spinspans_k14_traces_beside_power_sums.Holds := by
  exact k14_holds Law_k14.plain_all
