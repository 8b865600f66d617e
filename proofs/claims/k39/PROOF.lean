import PyProof.Rows.All
import HandS.CallSlots
import HandS.Conv
import HandS.Deep
import HandS.FStr
import HandS.Flow
import HandS.ForExc
import HandS.ForMost
import HandS.IsInst
import HandS.More
import HandS.RaiseMore
import HandS.Set
import HandS.SetFor
import HandS.SetKeys
import HandS.SortKw
import HandS.Style
import HandS.Walk
import HandS.Wide
import HandS.WideBits
import KE.DataMinMax
import KE.SortCalls
import KE.SortData
import PySem.Challenge.RW_wirechannel_k39_levels_far_apart
set_option Elab.async false
set_option linter.all false
set_option autoImplicit false
set_option maxRecDepth 100000
set_option maxHeartbeats 4000000
/-! WLa: values as trees, parts of heaps, worlds. -/
namespace WC
open PySem PySem.Spec PyProof.Rows L2

/-! ### assertions over a stable heap G and an owned part h -/
structure Asn where
  P : Hp → Hp → Prop
  mono : ∀ G G' h, Same G G' → P G h → P G' h
theorem Asn.ext' {A B : Asn} (h : ∀ G h, A.P G h ↔ B.P G h) : A = B := by
  cases A with
  | mk P m =>
    cases B with
    | mk P' m' =>
      have e : P = P' := by
        funext G x
        exact propext (h G x)
      subst e
      rfl
/-- h is h1 beside h2 -/
def Spl (h h1 h2 : Hp) : Prop := (∀ a, h1 a = none ∨ h2 a = none) ∧ ∀ a, h a = (h1 a).or (h2 a)
theorem Spl.symm {h h1 h2 : Hp} (s : Spl h h1 h2) : Spl h h2 h1 := ⟨fun a => (s.1 a).symm, fun a => by
  rw [s.2 a]
  rcases s.1 a with e | e <;> rw [e] <;> cases (h2 a) <;> first | rfl | (cases (h1 a) <;> rfl)⟩
theorem Spl.left {h h1 h2 : Hp} (s : Spl h h1 h2) {a : Addr} {o : HO} (e : h1 a = some o) : h a = some o := by
  rw [s.2 a, e]
  rfl
theorem Spl.right {h h1 h2 : Hp} (s : Spl h h1 h2) {a : Addr} {o : HO} (e : h2 a = some o) : h a = some o := s.symm.left e
def Hp0 : Hp := fun _ => none
theorem spl_empty (h : Hp) : Spl h Hp0 h := ⟨fun _ => .inl rfl, fun _ => rfl⟩
def uni (h1 h2 : Hp) : Hp := fun a => (h1 a).or (h2 a)
theorem spl_uni {h1 h2 : Hp} (d : ∀ a, h1 a = none ∨ h2 a = none) : Spl (uni h1 h2) h1 h2 := ⟨d, fun _ => rfl⟩
theorem Spl.eq {h h1 h2 : Hp} (s : Spl h h1 h2) : h = uni h1 h2 := funext s.2
theorem uni_none {h1 h2 : Hp} {a : Addr} : uni h1 h2 a = none ↔ h1 a = none ∧ h2 a = none := by
  unfold uni
  cases h1 a <;> simp
theorem Spl.none_iff {h h1 h2 : Hp} (s : Spl h h1 h2) {a : Addr} : h a = none ↔ h1 a = none ∧ h2 a = none := by
  rw [s.eq]
  exact uni_none
/-- reassociation -/
theorem Spl.assoc {h h12 h1 h2 h3 : Hp} (s : Spl h h12 h3) (t : Spl h12 h1 h2) : ∃ h23, Spl h h1 h23 ∧ Spl h23 h2 h3 := by
  refine ⟨uni h2 h3, ⟨fun a => ?_, fun a => ?_⟩, spl_uni fun a => ?_⟩
  · rcases s.1 a with e | e
    · exact .inl (t.none_iff.mp e).1
    · rcases t.1 a with q | q
      · exact .inl q
      · exact .inr (uni_none.mpr ⟨q, e⟩)
  · rw [s.2 a, t.2 a]
    unfold uni
    cases h1 a <;> rfl
  · rcases s.1 a with e | e
    · exact .inl (t.none_iff.mp e).2
    · exact .inr e

def star (A B : Asn) : Asn := ⟨fun G h => ∃ h1 h2, Spl h h1 h2 ∧ A.P G h1 ∧ B.P G h2, fun G G' h e ⟨h1, h2, s, a, b⟩ => ⟨h1, h2, s, A.mono _ _ _ e a, B.mono _ _ _ e b⟩⟩
instance : HSMul Asn Asn Asn := ⟨star⟩
def emp : Asn := ⟨fun _ h => h = Hp0, fun _ _ _ _ e => e⟩
def pu (φ : Prop) : Asn := ⟨fun _ h => h = Hp0 ∧ φ, fun _ _ _ _ e => e⟩
def fal : Asn := ⟨fun _ _ => False, fun _ _ _ _ e => e⟩
def pt (p : Addr) (o : HO) : Asn := ⟨fun _ h => h = upd Hp0 p o, fun _ _ _ _ e => e⟩
/-- a fact about the stable heap -/
def kn (φ : Hp → Prop) : Asn := ⟨fun G h => h = Hp0 ∧ ∀ G1, Same G G1 → φ G1, fun _ _ _ e ⟨a, f⟩ => ⟨a, fun G1 q => f G1 (e.trans q)⟩⟩
def ex {α : Type} (f : α → Asn) : Asn := ⟨fun G h => ∃ x, (f x).P G h, fun G G' h e ⟨x, p⟩ => ⟨x, (f x).mono _ _ _ e p⟩⟩

theorem star_comm (A B : Asn) : A • B = B • A := Asn.ext' fun G h => ⟨fun ⟨h1, h2, s, a, b⟩ => ⟨h2, h1, s.symm, b, a⟩, fun ⟨h1, h2, s, a, b⟩ => ⟨h2, h1, s.symm, b, a⟩⟩
theorem star_assoc (A B C : Asn) : (A • B) • C = A • B • C := Asn.ext' fun G h => by
  constructor
  · rintro ⟨h12, h3, s, ⟨h1, h2, t, a, b⟩, c⟩
    obtain ⟨h23, s', t'⟩ := s.assoc t
    exact ⟨h1, h23, s', a, h2, h3, t', b, c⟩
  · rintro ⟨h1, h23, s, a, h2, h3, t, b, c⟩
    obtain ⟨h12, s', t'⟩ := s.symm.assoc t.symm
    exact ⟨h12, h3, s'.symm, ⟨h1, h2, t'.symm, a, b⟩, c⟩
instance : Std.Commutative (α := Asn) (fun a b => a • b) := ⟨star_comm⟩
instance : Std.Associative (α := Asn) (fun a b => a • b) := ⟨star_assoc⟩
theorem emp_star (A : Asn) : emp • A = A := Asn.ext' fun G h => by
  constructor
  · rintro ⟨h1, h2, s, rfl, a⟩
    have e : h = h2 := by
      rw [s.eq]
      rfl
    rw [e]
    exact a
  · intro a
    exact ⟨Hp0, h, spl_empty h, rfl, a⟩
theorem star_emp (A : Asn) : A • emp = A := by
  rw [star_comm, emp_star]
theorem pu_true {φ : Prop} (h : φ) : pu φ = emp := Asn.ext' fun G x => ⟨fun ⟨a, _⟩ => a, fun a => ⟨a, h⟩⟩
theorem star_left (A B C : Asn) : A • B • C = B • A • C := by
  rw [← star_assoc, star_comm A B, star_assoc]
theorem kn_dup (φ : Hp → Prop) : kn φ = kn φ • kn φ := Asn.ext' fun G h => by
  constructor
  · rintro ⟨rfl, f⟩
    exact ⟨Hp0, Hp0, spl_empty _, ⟨rfl, f⟩, rfl, f⟩
  · rintro ⟨h1, h2, s, ⟨rfl, f⟩, rfl, _⟩
    refine ⟨?_, f⟩
    rw [s.eq]
    rfl
theorem pu_dup (φ : Prop) : pu φ = pu φ • pu φ := Asn.ext' fun G h => by
  constructor
  · rintro ⟨rfl, f⟩
    exact ⟨Hp0, Hp0, spl_empty _, ⟨rfl, f⟩, rfl, f⟩
  · rintro ⟨h1, h2, s, ⟨rfl, f⟩, rfl, _⟩
    refine ⟨?_, f⟩
    rw [s.eq]
    rfl
theorem ex_star {α : Type} (f : α → Asn) (A : Asn) : ex f • A = ex fun x => f x • A := Asn.ext' fun G h => by
  constructor
  · rintro ⟨h1, h2, s, ⟨x, p⟩, a⟩
    exact ⟨x, h1, h2, s, p, a⟩
  · rintro ⟨x, h1, h2, s, p, a⟩
    exact ⟨h1, h2, s, ⟨x, p⟩, a⟩

/-! ### worlds -/
/-- the abstract heap H holds a stable part, and beside it what A says -/
def Wd (H : Hp) (A : Asn) : Prop := ∃ G h, Same G H ∧ Same h H ∧ (∀ a, G a = none ∨ h a = none) ∧ (∀ a xs, h a ≠ some (.tup xs)) ∧ A.P G h
section
variable {H H' : Hp} {A B C R : Asn} {p : Addr} {o o' : HO} {xs vs : List V}
theorem Wd.imp (w : Wd H A) (h : ∀ G x, A.P G x → B.P G x) : Wd H B := by
  obtain ⟨G, x, a, b, c, d, e⟩ := w
  exact ⟨G, x, a, b, c, d, h G x e⟩
theorem Wd.eq (w : Wd H A) (e : A = B) : Wd H B := e ▸ w
theorem Wd.impL (w : Wd H (A • R)) (h : ∀ G x, A.P G x → B.P G x) : Wd H (B • R) := w.imp fun G x ⟨h1, h2, s, a, r⟩ => ⟨h1, h2, s, h G h1 a, r⟩
theorem Wd.same (w : Wd H A) (e : Same H H') : Wd H' A := by
  obtain ⟨G, x, a, b, c, d, q⟩ := w
  exact ⟨G, x, a.trans e, b.trans e, c, d, q⟩
theorem Wd.exL {α : Type} {f : α → Asn} (w : Wd H (ex f • R)) : ∃ x, Wd H (f x • R) := by
  rw [ex_star] at w
  obtain ⟨G, h, a, b, c, d, x, q⟩ := w
  exact ⟨x, G, h, a, b, c, d, q⟩
theorem Wd.exR {α : Type} {f : α → Asn} (x : α) (w : Wd H (f x • R)) : Wd H (ex f • R) := w.impL fun _ _ q => ⟨x, q⟩
theorem Wd.puL {φ : Prop} (w : Wd H (pu φ • R)) : φ ∧ Wd H R := by
  obtain ⟨G, h, a, b, c, d, h1, h2, s, ⟨rfl, f⟩, r⟩ := w
  have e : h = h2 := by
    rw [s.eq]
    rfl
  exact ⟨f, G, h, a, b, c, d, by rw [e]; exact r⟩
theorem Wd.puR {φ : Prop} (f : φ) (w : Wd H R) : Wd H (pu φ • R) := by
  rw [pu_true f, emp_star]
  exact w
theorem Wd.knL {φ : Hp → Prop} (w : Wd H (kn φ • R)) : φ H := by
  obtain ⟨G, h, a, b, c, d, h1, h2, s, ⟨_, f⟩, r⟩ := w
  exact f H a
theorem Wd.knD {φ : Hp → Prop} (w : Wd H (kn φ • R)) : Wd H R := by
  obtain ⟨G, h, a, b, c, d, h1, h2, s, ⟨rfl, f⟩, r⟩ := w
  have e : h = h2 := by
    rw [s.eq]
    rfl
  exact ⟨G, h, a, b, c, d, by rw [e]; exact r⟩
/-- a new owned object -/
theorem Wd.alloc (w : Wd H A) (n : H p = none) (nt : ∀ xs, o ≠ .tup xs) : Wd (upd H p o) (pt p o • A) := by
  obtain ⟨G, h, a, b, c, d, q⟩ := w
  have nG : G p = none := by
    cases e : G p with
    | none => rfl
    | some u =>
      rw [a p u e] at n
      cases n
  have nh : h p = none := by
    cases e : h p with
    | none => rfl
    | some u =>
      rw [b p u e] at n
      cases n
  have ne : ∀ {x u}, H x = some u → x ≠ p := fun e z => by
    rw [z, n] at e
    cases e
  refine ⟨G, uni (upd Hp0 p o) h, fun x u e => ?_, fun x u e => ?_, fun x => ?_, fun x xs e => ?_, _, h, spl_uni fun x => ?_, rfl, q⟩
  · rw [upd_ne (ne (a x u e))]
    exact a x u e
  · unfold uni at e
    by_cases hx : x = p
    · subst hx
      rw [upd_same] at e ⊢
      exact e
    · rw [upd_ne hx] at e ⊢
      exact b x u e
  · by_cases hx : x = p
    · subst hx
      exact .inl nG
    · rcases c x with z | z
      · exact .inl z
      · refine .inr ?_
        unfold uni
        rw [upd_ne hx]
        exact z
  · unfold uni at e
    by_cases hx : x = p
    · subst hx
      rw [upd_same] at e
      exact nt xs (Option.some.inj e)
    · rw [upd_ne hx] at e
      exact d x xs e
  · by_cases hx : x = p
    · subst hx
      exact .inr nh
    · refine .inl ?_
      rw [upd_ne hx]
      rfl
/-- a new stable object -/
theorem Wd.lay (w : Wd H A) (n : H p = none) : Wd (upd H p o) (kn (fun G => G p = some o) • A) := by
  obtain ⟨G, h, a, b, c, d, q⟩ := w
  have nG : G p = none := by
    cases e : G p with
    | none => rfl
    | some u =>
      rw [a p u e] at n
      cases n
  have nh : h p = none := by
    cases e : h p with
    | none => rfl
    | some u =>
      rw [b p u e] at n
      cases n
  have ne : ∀ {x u}, H x = some u → x ≠ p := fun e z => by
    rw [z, n] at e
    cases e
  have sG : Same G (upd G p o) := fun x u e => by
    rw [upd_ne (fun z => by rw [z, nG] at e; cases e)]
    exact e
  refine ⟨upd G p o, h, fun x u e => ?_, fun x u e => ?_, fun x => ?_, d, Hp0, h, spl_empty h, ⟨rfl, fun G1 s => s _ _ upd_same⟩, A.mono _ _ _ sG q⟩
  · by_cases hx : x = p
    · subst hx
      rw [upd_same] at e ⊢
      exact e
    · rw [upd_ne hx] at e ⊢
      exact a x u e
  · rw [upd_ne (ne (b x u e))]
    exact b x u e
  · by_cases hx : x = p
    · subst hx
      exact .inr nh
    · rcases c x with z | z
      · refine .inl ?_
        rw [upd_ne hx]
        exact z
      · exact .inr z
theorem Wd.get (w : Wd H (pt p o • A)) : H p = some o := by
  obtain ⟨G, h, a, b, c, d, h1, h2, s, e, q⟩ := w
  have e : h1 = upd Hp0 p o := e
  exact b p o (s.left (by rw [e, upd_same]))
theorem Wd.write (w : Wd H (pt p o • A)) (nt : ∀ xs, o' ≠ .tup xs) : Wd (upd H p o') (pt p o' • A) := by
  obtain ⟨G, h, a, b, c, d, h1, h2, s, e, q⟩ := w
  have e : h1 = upd Hp0 p o := e
  subst e
  have hp : h p = some o := s.left upd_same
  have n2 : h2 p = none := by
    rcases s.1 p with z | z
    · rw [upd_same] at z
      cases z
    · exact z
  have nG : G p = none := by
    rcases c p with z | z
    · exact z
    · rw [hp] at z
      cases z
  have h2h : ∀ {x u}, h2 x = some u → x ≠ p := fun e z => by
    rw [z, n2] at e
    cases e
  refine ⟨G, uni (upd Hp0 p o') h2, fun x u e => ?_, fun x u e => ?_, fun x => ?_, fun x xs e => ?_, _, h2, spl_uni fun x => ?_, rfl, q⟩
  · rw [upd_ne (fun z => by rw [z, nG] at e; cases e)]
    exact a x u e
  · unfold uni at e
    by_cases hx : x = p
    · subst hx
      rw [upd_same] at e ⊢
      exact e
    · rw [upd_ne hx] at e ⊢
      exact b x u (s.right e)
  · by_cases hx : x = p
    · subst hx
      exact .inl nG
    · rcases c x with z | z
      · exact .inl z
      · refine .inr ?_
        unfold uni
        rw [upd_ne hx]
        exact (s.none_iff.mp z).2
  · unfold uni at e
    by_cases hx : x = p
    · subst hx
      rw [upd_same] at e
      exact nt xs (Option.some.inj e)
    · rw [upd_ne hx] at e
      exact d x xs (s.right e)
  · by_cases hx : x = p
    · subst hx
      exact .inr n2
    · refine .inl ?_
      rw [upd_ne hx]
      rfl
theorem Wd.swap (w : Wd H (A • B)) : Wd H (B • A) := w.eq (star_comm A B)
theorem Wd.rot (w : Wd H (A • B • C)) : Wd H (B • A • C) := w.eq (star_left A B C)
end
end WC

/-! WLb: trees and what stands for them. -/
namespace WC
open PySem PySem.Spec PyProof.Rows L2
/-- stable data -/
inductive D where
  | fl (x : V)
  | any
  | tup (ds : List D)
  | lst (ds : List D)
  | dK (ks : List Key) (ds : List D)
  | dT (ks : List (List Key)) (ds : List D)
  | ins (C : Addr) (fs : List Str) (ds : List D)
/-- a value with all that hangs on it: stable, or owned here alone -/
inductive T where
  | d (x : D)
  | gone
  | tup (ts : List T)
  | lst (ts : List T)
  | dK (ks : List Key) (ts : List T)
  | dT (ks : List (List Key)) (ts : List T)
  | ins (C : Addr) (fs : List Str) (ts : List T)
abbrev D.int (i : Int) : D := .fl (.int i)
abbrev D.bl (b : Bool) : D := .fl (.bl b)
abbrev D.str (x : Str) : D := .fl (.str x)
abbrev D.non : D := .fl .non
abbrev T.fl (x : V) : T := .d (.fl x)
abbrev T.int (i : Int) : T := .d (.fl (.int i))
abbrev T.bl (b : Bool) : T := .d (.fl (.bl b))
abbrev T.str (x : Str) : T := .d (.fl (.str x))
abbrev T.non : T := .d (.fl .non)

variable (K : PySem.W.Frag)
/-- a tuple of the stable heap, or of the written part -/
def TupA (G : Hp) (p : Addr) (vs : List V) : Prop := G p = some (.tup vs) ∨ SqT K Hp0 p vs
mutual
def Den (G : Hp) : D → V → Prop
  | .fl x, v => v = x
  | .any, _ => True
  | .tup ds, v => ∃ p vs, v = .ref p ∧ TupA K G p vs ∧ DenL G ds vs
  | .lst ds, v => ∃ p vs, v = .ref p ∧ SqL K G p vs ∧ DenL G ds vs
  | .dK ks ds, v => ∃ p vs, v = .ref p ∧ ks.length = ds.length ∧ Rd G p (.dK (ks.zip vs)) ∧ DenL G ds vs
  | .dT ks ds, v => ∃ p vs, v = .ref p ∧ ks.length = ds.length ∧ Rd G p (.dT (ks.zip vs)) ∧ DenL G ds vs
  | .ins C fs ds, v => ∃ p dx vs, v = .ref p ∧ fs.length = ds.length ∧ G p = some (.ins C dx (fs.zip vs)) ∧ DenL G ds vs
def DenL (G : Hp) : List D → List V → Prop
  | [], [] => True
  | d :: ds, v :: vs => Den G d v ∧ DenL G ds vs
  | _, _ => False
end
mutual
def Rep : T → V → Asn
  | .d x, v => kn fun G => Den K G x v
  | .gone, _ => emp
  | .tup ts, v => ex fun p => ex fun vs => pu (v = .ref p) • kn (fun G => TupA K G p vs) • RepL ts vs
  | .lst ts, v => ex fun p => ex fun vs => pu (v = .ref p) • pt p (.lst vs) • RepL ts vs
  | .dK ks ts, v => ex fun p => ex fun vs => pu (v = .ref p ∧ ks.length = ts.length) • pt p (.dK (ks.zip vs)) • RepL ts vs
  | .dT ks ts, v => ex fun p => ex fun vs => pu (v = .ref p ∧ ks.length = ts.length) • pt p (.dT (ks.zip vs)) • RepL ts vs
  | .ins C fs ts, v => ex fun p => ex fun dx => ex fun vs => pu (v = .ref p ∧ fs.length = ts.length) • pt p (.ins C dx (fs.zip vs)) • RepL ts vs
def RepL : List T → List V → Asn
  | [], [] => emp
  | t :: ts, v :: vs => Rep t v • RepL ts vs
  | _, _ => fal
end
/-- slots -/
def SlotA : T → Option V → Asn
  | t, some v => Rep K t v
  | t, none => pu (t = .gone)
def EnvA : List T → List (Option V) → Asn
  | [], [] => emp
  | t :: env, x :: σ => SlotA K t x • EnvA env σ
  | _, _ => fal

/-! made stable -/
mutual
def frz : T → D
  | .d x => x
  | .gone => .any
  | .tup ts => .tup (frzL ts)
  | .lst ts => .lst (frzL ts)
  | .dK ks ts => .dK ks (frzL ts)
  | .dT ks ts => .dT ks (frzL ts)
  | .ins C fs ts => .ins C fs (frzL ts)
def frzL : List T → List D
  | [] => []
  | t :: ts => frz t :: frzL ts
end
/-- a slot made stable -/
def frzS : T → T
  | .gone => .gone
  | .d x => .d x
  | .tup ts => .d (.tup (frzL ts))
  | .lst ts => .d (.lst (frzL ts))
  | .dK ks ts => .d (.dK ks (frzL ts))
  | .dT ks ts => .d (.dT ks (frzL ts))
  | .ins C fs ts => .d (.ins C fs (frzL ts))
/-! flat values and tuples alone -/
mutual
def flatD : D → Bool
  | .fl _ => true
  | .any => true
  | .tup ds => flatDs ds
  | _ => false
def flatDs : List D → Bool
  | [] => true
  | d :: ds => flatD d && flatDs ds
end
/-! nothing stable hangs on it but tuples -/
mutual
def own : T → Bool
  | .d x => flatD x
  | .gone => true
  | .tup ts => ownL ts
  | .lst ts => ownL ts
  | .dK _ ts => ownL ts
  | .dT _ ts => ownL ts
  | .ins _ _ ts => ownL ts
def ownL : List T → Bool
  | [] => true
  | t :: ts => own t && ownL ts
end
theorem frzL_map : ∀ ts : List T, frzL ts = ts.map frz
  | [] => by simp only [frzL, List.map_nil]
  | t :: ts => by simp only [frzL, List.map_cons, frzL_map ts]
theorem frzL_d : ∀ ds : List D, frzL (ds.map .d) = ds
  | [] => by simp only [List.map_nil, frzL]
  | d :: ds => by simp only [List.map_cons, frzL, frz, frzL_d ds]
theorem ownL_all : ∀ ts : List T, ownL ts = ts.all own
  | [] => by simp only [ownL, List.all_nil]
  | t :: ts => by simp only [ownL, List.all_cons, ownL_all ts]
theorem flatDs_all : ∀ ds : List D, flatDs ds = ds.all flatD
  | [] => by simp only [flatDs, List.all_nil]
  | d :: ds => by simp only [flatDs, List.all_cons, flatDs_all ds]
theorem frzS_eq : ∀ t : T, t ≠ .gone → frzS t = .d (frz t)
  | .gone, h => absurd rfl h
  | .d x, _ => by simp only [frzS, frz]
  | .tup ts, _ => by simp only [frzS, frz]
  | .lst ts, _ => by simp only [frzS, frz]
  | .dK ks ts, _ => by simp only [frzS, frz]
  | .dT ks ts, _ => by simp only [frzS, frz]
  | .ins C fs ts, _ => by simp only [frzS, frz]

section
variable {K}
theorem SqT_hp0 {H : Hp} {p : Addr} {vs : List V} (h : SqT K Hp0 p vs) : SqT K H p vs := by
  rcases h with (h | ⟨o, h⟩) | h
  · cases h
  · cases h
  · exact .inr h
theorem TupA.sq {H : Hp} {p : Addr} {vs : List V} (h : TupA K H p vs) : SqT K H p vs := by
  rcases h with h | h
  · exact SqT.of h
  · exact SqT_hp0 h
theorem TupA.same {H H' : Hp} {p : Addr} {vs : List V} (e : Same H H') (h : TupA K H p vs) : TupA K H' p vs := h.imp (fun q => e _ _ q) fun q => q
theorem same_rd {H H' : Hp} {a : Addr} {u : HO} (e : Same H H') (h : Rd H a u) : Rd H' a u := by
  rcases h with h | ⟨o, h⟩
  · exact .inl (e a _ h)
  · exact .inr ⟨o, e a _ h⟩
mutual
theorem Den.same {G G' : Hp} (e : Same G G') : ∀ (d : D) (v : V), Den K G d v → Den K G' d v
  | .fl x, v, h => by simp only [Den] at h ⊢; exact h
  | .any, v, h => by simp only [Den]
  | .tup ds, v, h => by
    simp only [Den] at h ⊢
    obtain ⟨p, vs, a, b, c⟩ := h
    exact ⟨p, vs, a, b.same e, DenL.same e ds vs c⟩
  | .lst ds, v, h => by
    simp only [Den] at h ⊢
    obtain ⟨p, vs, a, b, c⟩ := h
    exact ⟨p, vs, a, Same.seq e b, DenL.same e ds vs c⟩
  | .dK ks ds, v, h => by
    simp only [Den] at h ⊢
    obtain ⟨p, vs, a, l, b, c⟩ := h
    exact ⟨p, vs, a, l, same_rd e b, DenL.same e ds vs c⟩
  | .dT ks ds, v, h => by
    simp only [Den] at h ⊢
    obtain ⟨p, vs, a, l, b, c⟩ := h
    exact ⟨p, vs, a, l, same_rd e b, DenL.same e ds vs c⟩
  | .ins C fs ds, v, h => by
    simp only [Den] at h ⊢
    obtain ⟨p, dx, vs, a, l, b, c⟩ := h
    exact ⟨p, dx, vs, a, l, e _ _ b, DenL.same e ds vs c⟩
theorem DenL.same {G G' : Hp} (e : Same G G') : ∀ (ds : List D) (vs : List V), DenL K G ds vs → DenL K G' ds vs
  | [], [], _ => by simp only [DenL]
  | [], _ :: _, h => by simp only [DenL] at h
  | _ :: _, [], h => by simp only [DenL] at h
  | d :: ds, v :: vs, h => by
    simp only [DenL] at h ⊢
    exact ⟨Den.same e d v h.1, DenL.same e ds vs h.2⟩
end
theorem DenL_len {G : Hp} : ∀ {ds : List D} {vs : List V}, DenL K G ds vs → ds.length = vs.length
  | [], [], _ => rfl
  | [], _ :: _, h => by simp only [DenL] at h
  | _ :: _, [], h => by simp only [DenL] at h
  | d :: ds, v :: vs, h => by
    simp only [DenL] at h
    rw [List.length_cons, List.length_cons, DenL_len h.2]
theorem DenL_get {G : Hp} : ∀ {ds : List D} {vs : List V} {i : Nat} {d : D}, DenL K G ds vs → ds[i]? = some d → ∃ v, vs[i]? = some v ∧ Den K G d v
  | [], _, _, _, _, e => by simp at e
  | _ :: _, [], _, _, h, _ => by simp only [DenL] at h
  | c :: ds, v :: vs, 0, d, h, e => by
    simp only [DenL] at h
    simp only [List.getElem?_cons_zero, Option.some.injEq] at e
    subst e
    exact ⟨v, rfl, h.1⟩
  | c :: ds, v :: vs, i + 1, d, h, e => by
    simp only [DenL] at h
    simp only [List.getElem?_cons_succ] at e
    obtain ⟨w, a, b⟩ := DenL_get h.2 e
    exact ⟨w, by simpa using a, b⟩
theorem RepL_len : ∀ {ts : List T} {vs : List V} {G h : Hp}, (RepL K ts vs).P G h → ts.length = vs.length
  | [], [], _, _, _ => rfl
  | [], _ :: _, _, _, p => by simp only [RepL] at p; exact p.elim
  | _ :: _, [], _, _, p => by simp only [RepL] at p; exact p.elim
  | t :: ts, v :: vs, G, h, p => by
    simp only [RepL] at p
    obtain ⟨h1, h2, _, _, q⟩ := p
    rw [List.length_cons, List.length_cons, RepL_len q]
theorem Wd.lenL {H : Hp} {ts : List T} {vs : List V} {R : Asn} (w : Wd H (RepL K ts vs • R)) : ts.length = vs.length := by
  obtain ⟨G, h, a, b, c, d, h1, h2, s, e, q⟩ := w
  exact RepL_len e
theorem RepL_nil : RepL K [] [] = emp := by simp only [RepL]
theorem RepL_cons {t : T} {ts : List T} {v : V} {vs : List V} : RepL K (t :: ts) (v :: vs) = Rep K t v • RepL K ts vs := by simp only [RepL]
theorem RepL_app : ∀ {ts us : List T} {vs ws : List V}, ts.length = vs.length → RepL K (ts ++ us) (vs ++ ws) = RepL K ts vs • RepL K us ws
  | [], us, [], ws, _ => by rw [RepL_nil, emp_star]; rfl
  | t :: ts, us, v :: vs, ws, h => by
    rw [List.cons_append, List.cons_append, RepL_cons, RepL_cons, RepL_app (by simpa using h), star_assoc]
  | [], _, _ :: _, _, h => by simp at h
  | _ :: _, _, [], _, h => by simp at h
theorem Rep_d {x : D} {v : V} : Rep K (.d x) v = kn fun G => Den K G x v := by simp only [Rep]
theorem kn_den {G h : Hp} {x : D} {v : V} : (Rep K (.d x) v).P G h ↔ h = Hp0 ∧ Den K G x v := by
  rw [Rep_d]
  exact ⟨fun ⟨a, b⟩ => ⟨a, b G (Same.refl G)⟩, fun ⟨a, b⟩ => ⟨a, fun G1 s => Den.same s x v b⟩⟩
theorem wd_d {H : Hp} {x : D} {v : V} {R : Asn} (w : Wd H (Rep K (.d x) v • R)) : Den K H x v := by
  rw [Rep_d] at w
  exact w.knL
theorem wd_dup {H : Hp} {x : D} {v : V} {R : Asn} (w : Wd H (Rep K (.d x) v • R)) : Wd H (Rep K (.d x) v • Rep K (.d x) v • R) := by
  rw [Rep_d] at w ⊢
  rw [kn_dup] at w
  exact w.eq (star_assoc _ _ _)
theorem Rep_dup {x : D} {v : V} : Rep K (.d x) v = Rep K (.d x) v • Rep K (.d x) v := by
  rw [Rep_d]
  exact kn_dup _
/-- any part may be left away -/
theorem Wd.drop {H : Hp} {A R : Asn} (w : Wd H (A • R)) : Wd H R := by
  obtain ⟨G, h, a, b, c, e, h1, h2, s, p, q⟩ := w
  exact ⟨G, h2, a, fun x o z => b x o (s.right z), fun x => by
    rcases c x with z | z
    · exact .inl z
    · exact .inr (s.none_iff.mp z).2, fun x xs z => e x xs (s.right z), q⟩
theorem wd_fl {H : Hp} {x v : V} {R : Asn} (w : Wd H (Rep K (.fl x) v • R)) : v = x := by
  have h := wd_d w
  simp only [Den] at h
  exact h
theorem rep_fl {x : V} : Rep K (.fl x) x = emp := Asn.ext' fun G h => by
  rw [kn_den]
  simp only [Den, and_true]
  exact Iff.rfl
theorem wd_ofl {H : Hp} {x : V} {R : Asn} (w : Wd H R) : Wd H (Rep K (.fl x) x • R) := by
  rw [rep_fl, emp_star]
  exact w
/-- something stable comes to be known -/
theorem wd_know {H : Hp} {φ ψ : Hp → Prop} {R : Asn} (w : Wd H (kn φ • R)) (f : ∀ G, φ G → ψ G) : Wd H (kn ψ • R) := w.impL fun _ _ p => ⟨p.1, fun G1 s => f _ (p.2 G1 s)⟩
theorem wd_sub {H : Hp} {x y : D} {v u : V} {R : Asn} (w : Wd H (Rep K (.d x) v • R)) (f : ∀ G, Den K G x v → Den K G y u) : Wd H (Rep K (.d y) u • Rep K (.d x) v • R) := by
  have w2 := wd_dup w
  refine w2.impL fun G h p => ?_
  rw [kn_den] at p ⊢
  exact ⟨p.1, f G p.2⟩
end
end WC

/-! WLc: freezing, reading from the whole heap, slots. -/
namespace WC
open PySem PySem.Spec PyProof.Rows L2
variable {K : PySem.W.Frag}
mutual
theorem Rep_frz : ∀ (t : T) (v : V) (G h G' : Hp), (Rep K t v).P G h → Same G G' → Same h G' → Den K G' (frz t) v
  | .d x, v, G, h, G', p, a, b => by
    rw [kn_den] at p
    simp only [frz]
    exact Den.same a x v p.2
  | .gone, v, G, h, G', p, a, b => by simp only [frz, Den]
  | .tup ts, v, G, h, G', p, a, b => by
    simp only [Rep] at p
    simp only [frz, Den]
    obtain ⟨q, vs, h1, h2, s, x, h3, h4, s', y, z⟩ := p
    exact ⟨q, vs, x.2, y.2 _ a, RepL_frz ts vs G h4 G' z a fun c o e => b c o (s.right (s'.right e))⟩
  | .lst ts, v, G, h, G', p, a, b => by
    simp only [Rep] at p
    simp only [frz, Den]
    obtain ⟨q, vs, h1, h2, s, x, h3, h4, s', y, z⟩ := p
    have y : h3 = upd Hp0 q (.lst vs) := y
    exact ⟨q, vs, x.2, SqL.of (b _ _ (s.right (s'.left (by rw [y, upd_same])))), RepL_frz ts vs G h4 G' z a fun c o e => b c o (s.right (s'.right e))⟩
  | .dK ks ts, v, G, h, G', p, a, b => by
    simp only [Rep] at p
    simp only [frz, Den]
    obtain ⟨q, vs, h1, h2, s, x, h3, h4, s', y, z⟩ := p
    have y : h3 = upd Hp0 q (.dK (ks.zip vs)) := y
    refine ⟨q, vs, x.2.1, ?_, .inl (b _ _ (s.right (s'.left (by rw [y, upd_same])))), RepL_frz ts vs G h4 G' z a fun c o e => b c o (s.right (s'.right e))⟩
    rw [frzL_map, List.length_map]
    exact x.2.2
  | .dT ks ts, v, G, h, G', p, a, b => by
    simp only [Rep] at p
    simp only [frz, Den]
    obtain ⟨q, vs, h1, h2, s, x, h3, h4, s', y, z⟩ := p
    have y : h3 = upd Hp0 q (.dT (ks.zip vs)) := y
    refine ⟨q, vs, x.2.1, ?_, .inl (b _ _ (s.right (s'.left (by rw [y, upd_same])))), RepL_frz ts vs G h4 G' z a fun c o e => b c o (s.right (s'.right e))⟩
    rw [frzL_map, List.length_map]
    exact x.2.2
  | .ins C fs ts, v, G, h, G', p, a, b => by
    simp only [Rep] at p
    simp only [frz, Den]
    obtain ⟨q, dx, vs, h1, h2, s, x, h3, h4, s', y, z⟩ := p
    have y : h3 = upd Hp0 q (.ins C dx (fs.zip vs)) := y
    refine ⟨q, dx, vs, x.2.1, ?_, b _ _ (s.right (s'.left (by rw [y, upd_same]))), RepL_frz ts vs G h4 G' z a fun c o e => b c o (s.right (s'.right e))⟩
    rw [frzL_map, List.length_map]
    exact x.2.2
theorem RepL_frz : ∀ (ts : List T) (vs : List V) (G h G' : Hp), (RepL K ts vs).P G h → Same G G' → Same h G' → DenL K G' (frzL ts) vs
  | [], [], G, h, G', p, a, b => by simp only [frzL, DenL]
  | [], _ :: _, G, h, G', p, a, b => by
    simp only [RepL] at p
    exact p.elim
  | _ :: _, [], G, h, G', p, a, b => by
    simp only [RepL] at p
    exact p.elim
  | t :: ts, v :: vs, G, h, G', p, a, b => by
    simp only [RepL] at p
    simp only [frzL, DenL]
    obtain ⟨h1, h2, s, x, y⟩ := p
    exact ⟨Rep_frz t v G h1 G' x a fun c o e => b c o (s.left e), RepL_frz ts vs G h2 G' y a fun c o e => b c o (s.right e)⟩
end
/-- an owned part becomes stable -/
theorem Wd.frzGen {H : Hp} {A B R : Asn} (f : ∀ G h G', A.P G h → Same G G' → Same h G' → B.P G' Hp0) (w : Wd H (A • R)) : Wd H (B • R) := by
  obtain ⟨G, h, a, b, c, d, h1, h2, s, p, q⟩ := w
  have dG : ∀ x, G x = none ∨ h1 x = none := fun x => (c x).imp (fun z => z) fun z => (s.none_iff.mp z).1
  have s1 : Same G (uni G h1) := fun x o e => by
    unfold uni
    rw [e]
    rfl
  have s2 : Same h1 (uni G h1) := fun x o e => by
    unfold uni
    rcases dG x with z | z
    · rw [z, e]
      rfl
    · rw [z] at e
      cases e
  refine ⟨uni G h1, h2, fun x o e => ?_, fun x o e => b x o (s.right e), fun x => ?_, fun x xs e => d x xs (s.right e), Hp0, h2, spl_empty h2, f G h1 _ p s1 s2, R.mono _ _ _ s1 q⟩
  · unfold uni at e
    cases z : G x with
    | some u =>
      rw [z] at e
      rw [a x u z]
      exact e
    | none =>
      rw [z] at e
      exact b x o (s.left e)
  · rcases c x with z | z
    · rcases s.1 x with y | y
      · exact .inl (uni_none.mpr ⟨z, y⟩)
      · exact .inr y
    · exact .inr (s.none_iff.mp z).2
theorem wd_frz {H : Hp} {t : T} {v : V} {R : Asn} (w : Wd H (Rep K t v • R)) : Wd H (Rep K (.d (frz t)) v • R) := w.frzGen fun G h G' p a b => kn_den.mpr ⟨rfl, Rep_frz t v G h G' p a b⟩
/-- what of a tree is told by the whole heap -/
theorem wd_den {H : Hp} {t : T} {v : V} {R : Asn} (w : Wd H (Rep K t v • R)) : Den K H (frz t) v := by
  obtain ⟨G, h, a, b, c, d, h1, h2, s, p, q⟩ := w
  exact Rep_frz t v G h1 H p a fun x o e => b x o (s.left e)
theorem wd_denL {H : Hp} {ts : List T} {vs : List V} {R : Asn} (w : Wd H (RepL K ts vs • R)) : DenL K H (frzL ts) vs := by
  obtain ⟨G, h, a, b, c, d, h1, h2, s, p, q⟩ := w
  exact RepL_frz ts vs G h1 H p a fun x o e => b x o (s.left e)

/-! ### slots -/
theorem SlotA_frz (t : T) (x : Option V) (G h G' : Hp) (p : (SlotA K t x).P G h) (a : Same G G') (b : Same h G') : (SlotA K (frzS t) x).P G' Hp0 := by
  cases x with
  | some v =>
    show (Rep K (frzS t) v).P G' Hp0
    by_cases ht : t = .gone
    · subst ht
      simp only [frzS, Rep]
      rfl
    · rw [frzS_eq t ht]
      exact kn_den.mpr ⟨rfl, Rep_frz t v G h G' p a b⟩
  | none =>
    have p : (pu (t = .gone)).P G h := p
    refine ⟨rfl, ?_⟩
    rw [p.2]
    simp only [frzS]
theorem EnvA_frz : ∀ (env : List T) (σ : List (Option V)) (G h G' : Hp), (EnvA K env σ).P G h → Same G G' → Same h G' → (EnvA K (env.map frzS) σ).P G' Hp0
  | [], [], _, _, _, _, _, _ => rfl
  | [], _ :: _, _, _, _, p, _, _ => p.elim
  | _ :: _, [], _, _, _, p, _, _ => p.elim
  | t :: env, x :: σ, G, h, G', p, a, b => by
    obtain ⟨h1, h2, s, y, z⟩ := p
    exact ⟨Hp0, Hp0, spl_empty Hp0, SlotA_frz t x G h1 G' y a fun c o e => b c o (s.left e), EnvA_frz env σ G h2 G' z a fun c o e => b c o (s.right e)⟩
/-- all that stands is looked at as stable -/
theorem wd_all {H : Hp} {A R B : Asn} (f : ∀ G h G', A.P G h → Same G G' → Same h G' → B.P G' Hp0) (w : Wd H (A • R)) : Wd H (B • kn fun G => Same H G) := by
  obtain ⟨G, h, a, b, c, d, h1, h2, s, p, q⟩ := w
  exact ⟨H, Hp0, Same.refl H, fun x o e => (by cases e), fun x => .inr rfl, fun x xs e => (by cases e), Hp0, Hp0, spl_empty Hp0, f G h1 H p a fun x o e => b x o (s.left e), ⟨rfl, fun G1 s => s⟩⟩
mutual
theorem Den_flat : ∀ (x : D) (v : V) (G G' : Hp), flatD x = true → Den K G x v → (∀ a xs, G a = some (.tup xs) → G' a = some (.tup xs)) → Den K G' x v
  | .fl x, v, G, G', d, p, a => by
    simp only [Den] at p ⊢
    exact p
  | .any, v, G, G', d, p, a => by simp only [Den]
  | .tup ds, v, G, G', d, p, a => by
    simp only [flatD] at d
    simp only [Den] at p ⊢
    obtain ⟨q, vs, e, y, z⟩ := p
    exact ⟨q, vs, e, y.imp (a _ _) (fun z => z), DenL_flat ds vs G G' d z a⟩
  | .lst _, _, _, _, d, _, _ => by simp only [flatD] at d; cases d
  | .dK _ _, _, _, _, d, _, _ => by simp only [flatD] at d; cases d
  | .dT _ _, _, _, _, d, _, _ => by simp only [flatD] at d; cases d
  | .ins _ _ _, _, _, _, d, _, _ => by simp only [flatD] at d; cases d
theorem DenL_flat : ∀ (ds : List D) (vs : List V) (G G' : Hp), flatDs ds = true → DenL K G ds vs → (∀ a xs, G a = some (.tup xs) → G' a = some (.tup xs)) → DenL K G' ds vs
  | [], [], _, _, _, _, _ => by simp only [DenL]
  | [], _ :: _, _, _, _, h, _ => by simp only [DenL] at h
  | _ :: _, [], _, _, _, h, _ => by simp only [DenL] at h
  | d :: ds, v :: vs, G, G', f, h, a => by
    simp only [flatDs, Bool.and_eq_true] at f
    simp only [DenL] at h ⊢
    exact ⟨Den_flat d v G G' f.1 h.1 a, DenL_flat ds vs G G' f.2 h.2 a⟩
end
mutual
theorem Rep_own : ∀ (t : T) (v : V) (G h G' : Hp), own t = true → (Rep K t v).P G h → (∀ a xs, G a = some (.tup xs) → G' a = some (.tup xs)) → (Rep K t v).P G' h
  | .d x, v, G, h, G', d, p, a => by
    simp only [own] at d
    rw [kn_den] at p ⊢
    exact ⟨p.1, Den_flat x v G G' d p.2 a⟩
  | .gone, v, G, h, G', d, p, a => by
    simp only [Rep] at p ⊢
    exact p
  | .tup ts, v, G, h, G', d, p, a => by
    simp only [own] at d
    simp only [Rep] at p ⊢
    obtain ⟨q, vs, h1, h2, s, x, h3, h4, s', y, z⟩ := p
    refine ⟨q, vs, h1, h2, s, x, h3, h4, s', ⟨y.1, fun G1 r => ?_⟩, RepL_own ts vs G h4 G' d z a⟩
    rcases y.2 G (Same.refl G) with e | e
    · exact .inl (r _ _ (a _ _ e))
    · exact .inr e
  | .lst ts, v, G, h, G', d, p, a => by
    simp only [own] at d
    simp only [Rep] at p ⊢
    obtain ⟨q, vs, h1, h2, s, x, h3, h4, s', y, z⟩ := p
    exact ⟨q, vs, h1, h2, s, x, h3, h4, s', y, RepL_own ts vs G h4 G' d z a⟩
  | .dK ks ts, v, G, h, G', d, p, a => by
    simp only [own] at d
    simp only [Rep] at p ⊢
    obtain ⟨q, vs, h1, h2, s, x, h3, h4, s', y, z⟩ := p
    exact ⟨q, vs, h1, h2, s, x, h3, h4, s', y, RepL_own ts vs G h4 G' d z a⟩
  | .dT ks ts, v, G, h, G', d, p, a => by
    simp only [own] at d
    simp only [Rep] at p ⊢
    obtain ⟨q, vs, h1, h2, s, x, h3, h4, s', y, z⟩ := p
    exact ⟨q, vs, h1, h2, s, x, h3, h4, s', y, RepL_own ts vs G h4 G' d z a⟩
  | .ins C fs ts, v, G, h, G', d, p, a => by
    simp only [own] at d
    simp only [Rep] at p ⊢
    obtain ⟨q, dx, vs, h1, h2, s, x, h3, h4, s', y, z⟩ := p
    exact ⟨q, dx, vs, h1, h2, s, x, h3, h4, s', y, RepL_own ts vs G h4 G' d z a⟩
theorem RepL_own : ∀ (ts : List T) (vs : List V) (G h G' : Hp), ownL ts = true → (RepL K ts vs).P G h → (∀ a xs, G a = some (.tup xs) → G' a = some (.tup xs)) → (RepL K ts vs).P G' h
  | [], [], G, h, G', d, p, a => by
    simp only [RepL] at p ⊢
    exact p
  | [], _ :: _, G, h, G', d, p, a => by
    simp only [RepL] at p
    exact p.elim
  | _ :: _, [], G, h, G', d, p, a => by
    simp only [RepL] at p
    exact p.elim
  | t :: ts, v :: vs, G, h, G', d, p, a => by
    simp only [ownL, Bool.and_eq_true] at d
    simp only [RepL] at p ⊢
    obtain ⟨h1, h2, s, x, y⟩ := p
    exact ⟨h1, h2, s, Rep_own t v G h1 G' d.1 x a, RepL_own ts vs G h2 G' d.2 y a⟩
end
/-- what was made while all stood still comes beside what stood -/
theorem wd_backG {H H' : Hp} {R0 A B : Asn} (o : ∀ G h G', B.P G h → (∀ a xs, G a = some (.tup xs) → G' a = some (.tup xs)) → B.P G' h) (w0 : Wd H R0) (w : Wd H' (B • kn (fun G => Same H G) • A)) : Wd H' (B • R0) := by
  obtain ⟨G, h, a, b, c, d, q⟩ := w0
  obtain ⟨G', h', a', b', c', d', h1, h2, s, p, h3, h4, s', y, z⟩ := w
  have hG : Same H G' := y.2 G' (Same.refl _)
  have hH : Same H H' := hG.trans a'
  have n1 : ∀ {x o}, H x = some o → h1 x = none := fun e => by
    rcases c' _ with z | z
    · rw [hG _ _ e] at z
      cases z
    · exact (s.none_iff.mp z).1
  refine ⟨fun x => match H' x with
    | some (.tup xs) => some (.tup xs)
    | _ => G x, uni h1 h, fun x o e => ?_, fun x o e => ?_, fun x => ?_, fun x xs e => ?_, h1, h, spl_uni fun x => ?_, ?_, R0.mono G _ h (fun x o e => ?_) q⟩
  · dsimp only at e
    split at e
    · rename_i z
      rw [z]
      exact e
    · exact hH _ _ (a _ _ e)
  · unfold uni at e
    cases z : h1 x with
    | some u =>
      rw [z] at e
      rw [b' x u (s.left z)]
      exact e
    | none =>
      rw [z] at e
      exact hH _ _ (b x o e)
  · dsimp only
    split
    · rename_i xs z
      refine .inr (uni_none.mpr ⟨?_, ?_⟩)
      · cases e : h1 x with
        | none => rfl
        | some u =>
          have e2 := b' x u (s.left e)
          rw [z] at e2
          cases e2
          exact absurd (s.left e) (d' x xs)
      · cases e : h x with
        | none => rfl
        | some u =>
          have e2 := hH _ _ (b x u e)
          rw [z] at e2
          cases e2
          exact absurd e (d x xs)
    · cases e : G x with
      | none => exact .inl rfl
      | some u =>
        refine .inr (uni_none.mpr ⟨n1 (a _ _ e), ?_⟩)
        rcases c x with z | z
        · rw [e] at z
          cases z
        · exact z
  · unfold uni at e
    cases z : h1 x with
    | some u =>
      rw [z] at e
      exact d' x xs (s.left (by rw [z]; exact e))
    | none =>
      rw [z] at e
      exact d x xs e
  · cases e : h x with
    | none => exact .inr rfl
    | some u => exact .inl (n1 (b _ _ e))
  · refine o G' h1 _ p fun x xs e => ?_
    simp only [a' _ _ e]
  · have e2 := hH _ _ (a _ _ e)
    simp only [e2]
    cases o <;> first | rfl | exact e
theorem wd_back {H H' : Hp} {R0 A : Asn} {t : T} {v : V} (w0 : Wd H R0) (o : own t = true) (w : Wd H' (Rep K t v • kn (fun G => Same H G) • A)) : Wd H' (Rep K t v • R0) :=
  wd_backG (fun G h G' p a => Rep_own t v G h G' o p a) w0 w
theorem EnvA_len : ∀ {env : List T} {σ : List (Option V)} {G h : Hp}, (EnvA K env σ).P G h → env.length = σ.length
  | [], [], _, _, _ => rfl
  | [], _ :: _, _, _, p => p.elim
  | _ :: _, [], _, _, p => p.elim
  | t :: env, x :: σ, G, h, p => by
    obtain ⟨h1, h2, _, _, q⟩ := p
    rw [List.length_cons, List.length_cons, EnvA_len q]
theorem Wd.len {H : Hp} {env : List T} {σ : List (Option V)} {R : Asn} (w : Wd H (EnvA K env σ • R)) : env.length = σ.length := by
  obtain ⟨G, h, a, b, c, d, h1, h2, s, p, q⟩ := w
  exact EnvA_len p
theorem SlotA_gone (x : Option V) : SlotA K .gone x = emp := by
  cases x with
  | none => exact pu_true rfl
  | some v =>
    show Rep K .gone v = emp
    simp only [Rep]
/-- a slot taken out -/
theorem EnvA_take : ∀ {env : List T} {σ : List (Option V)} {i : Nat} {t : T} {x : Option V}, env[i]? = some t → σ[i]? = some x → EnvA K env σ = SlotA K t x • EnvA K (env.set i .gone) σ
  | [], _, _, _, _, h, _ => by simp at h
  | _ :: _, [], _, _, _, _, h => by simp at h
  | u :: env, y :: σ, 0, t, x, h1, h2 => by
    simp only [List.getElem?_cons_zero, Option.some.injEq] at h1 h2
    subst h1
    subst h2
    show SlotA K u y • EnvA K env σ = SlotA K u y • (SlotA K .gone y • EnvA K env σ)
    rw [SlotA_gone, emp_star]
  | u :: env, y :: σ, i + 1, t, x, h1, h2 => by
    simp only [List.getElem?_cons_succ] at h1 h2
    show SlotA K u y • EnvA K env σ = SlotA K t x • (SlotA K u y • EnvA K (env.set i .gone) σ)
    rw [EnvA_take h1 h2, star_left]
theorem EnvA_put : ∀ {env : List T} {σ : List (Option V)} {i : Nat} {t : T} {v : V}, i < env.length → i < σ.length → EnvA K (env.set i t) (σ.set i (some v)) = Rep K t v • EnvA K (env.set i .gone) σ
  | [], _, _, _, _, h, _ => by simp at h
  | _ :: _, [], _, _, _, _, h => by simp at h
  | u :: env, y :: σ, 0, t, v, h1, h2 => by
    show SlotA K t (some v) • EnvA K env σ = Rep K t v • (SlotA K .gone y • EnvA K env σ)
    rw [SlotA_gone, emp_star]
    rfl
  | u :: env, y :: σ, i + 1, t, v, h1, h2 => by
    simp only [List.length_cons, Nat.add_lt_add_iff_right] at h1 h2
    show SlotA K u y • EnvA K (env.set i t) (σ.set i (some v)) = Rep K t v • (SlotA K u y • EnvA K (env.set i .gone) σ)
    rw [EnvA_put h1 h2, star_left]
/-- a slot with something in it holds a value -/
theorem wd_slot {H : Hp} {env : List T} {σ : List (Option V)} {R : Asn} {i : Nat} {t : T} (w : Wd H (EnvA K env σ • R)) (h : env[i]? = some t) (ht : t ≠ .gone) : ∃ v, σ[i]? = some (some v) ∧ EnvA K env σ = Rep K t v • EnvA K (env.set i .gone) σ := by
  have hi : i < σ.length := by
    rw [← w.len]
    exact (List.getElem?_eq_some_iff.mp h).1
  have e : σ[i]? = some σ[i] := List.getElem?_eq_getElem hi
  have e2 : EnvA K env σ = SlotA K t σ[i] • EnvA K (env.set i .gone) σ := EnvA_take h e
  cases q : σ[i] with
  | some v =>
    rw [q] at e e2
    exact ⟨v, e, e2⟩
  | none =>
    rw [q] at e2
    rw [e2] at w
    have w2 : Wd H (pu (t = .gone) • (EnvA K (env.set i .gone) σ • R)) := w.eq (star_assoc _ _ _)
    exact absurd w2.puL.1 ht
/-- behind a take, something put back into the slot -/
theorem EnvA_back {env : List T} {σ : List (Option V)} {i : Nat} {t : T} {v : V} (h : σ[i]? = some (some v)) (hi : i < env.length) : EnvA K (env.set i t) σ = Rep K t v • EnvA K (env.set i .gone) σ := by
  have hs := (List.getElem?_eq_some_iff.mp h).1
  rw [← EnvA_put hi hs]
  congr 1
  have e : σ[i] = some v := (List.getElem?_eq_some_iff.mp h).2
  rw [← e]
  simp
theorem EnvA_gone {env : List T} {σ : List (Option V)} {i : Nat} {t : T} : (env.set i t).set i .gone = env.set i .gone := by simp
end WC

/-! WLd: what code is worth over trees (S..), its readings (t..), rules for expressions and tests. -/
namespace WC
open PySem PySem.Spec PyProof.Rows L2
abbrev Nv := List T
/-- an exception: its class, its fields -/
structure Exn where
  C : Addr
  fs : List Str
  ts : List T
abbrev EK := T → Nv → Prop
abbrev XQ := Exn → Nv → Prop
abbrev SE := Nv → EK → XQ → Prop
abbrev SB := Nv → (Bool → Nv → Prop) → XQ → Prop
inductive Arg where
  | v (t : T)
  | l (i : Nat)
abbrev SA := Nv → (List Arg → Nv → Prop) → XQ → Prop
structure EndT where
  nx : Nv → Prop
  rt : T → Nv → Prop
  bk : Nv → Prop
  ct : Nv → Prop
  ex : XQ
abbrev SS := EndT → Nv → Prop
abbrev STG := T → Nv → (Nv → Prop) → Prop

section
variable (K : PySem.W.Frag) (W : WX)
def ExnA (x : Exn) (cls : Value) (d : Option Addr) : Asn := match x.fs with
  | [] => pu (cls = .ref x.C ∧ d = none)
  | _ :: _ => ex fun dx => ex fun vs => pu (cls = .ref x.C ∧ d = some dx ∧ x.fs.length = x.ts.length) • kn (fun G => G dx = some (.xd (x.fs.zip vs))) • RepL K x.ts vs
def ArgA (σ : L2.St) : List Arg → List V → Asn
  | [], [] => emp
  | .v t :: as, x :: vs => Rep K t x • ArgA σ as vs
  | .l i :: as, x :: vs => pu (σ[i]? = some (some x)) • ArgA σ as vs
  | _, _ => fal
/-- the ways out of an expression, a test, arguments -/
def OkE (σ : L2.St) (R : Asn) (k : EK) (Q : VK) : Prop := ∀ t env v H, k t env → Wd H (Rep K t v • EnvA K env σ • R) → Q v H
def OkB (σ : L2.St) (R : Asn) (k : Bool → Nv → Prop) (Q : Bool → Hp → Prop) : Prop := ∀ b env H, k b env → Wd H (EnvA K env σ • R) → Q b H
def OkA (σ : L2.St) (R : Asn) (k : List Arg → Nv → Prop) (Q : List V → Hp → Prop) : Prop := ∀ as env vs H, k as env → Wd H (ArgA K σ as vs • EnvA K env σ • R) → Q vs H
def ErE (σ : L2.St) (R : Asn) (e : XQ) : Prop := ∀ x env cls d H, e x env → Wd H (ExnA K x cls d • EnvA K env σ • R) → W cls d σ H
def tE (α : SE) : TE := fun σ H Q => ∃ env R k e, Wd H (EnvA K env σ • R) ∧ α env k e ∧ OkE K σ R k Q ∧ ErE K W σ R e
def tT (β : SB) : TT := fun σ H Q => ∃ env R k e, Wd H (EnvA K env σ • R) ∧ β env k e ∧ OkB K σ R k Q ∧ ErE K W σ R e
def tA (γ : SA) : TA := fun σ H Q => ∃ env R k e, Wd H (EnvA K env σ • R) ∧ γ env k e ∧ OkA K σ R k Q ∧ ErE K W σ R e
end
section
variable {K : PySem.W.Frag} {W : WX} {σ : L2.St} {R A : Asn} {e : XQ}
theorem ErE.more (h : ErE K W σ R e) : ErE K W σ (A • R) e := fun x env cls d H q w => h x env cls d H q (by
  have w2 : Wd H (A • (ExnA K x cls d • EnvA K env σ • R)) := w.eq (by ac_rfl)
  exact w2.drop)
theorem ErE.no : ErE K W σ R (fun _ _ => False) := fun _ _ _ _ _ q _ => False.elim q
end

/-! ### slots -/
def slot : Nv → Nat → T
  | [], _ => .gone
  | t :: _, 0 => t
  | _ :: r, n + 1 => slot r n
theorem slot_get : ∀ {env : Nv} {i : Nat}, slot env i ≠ .gone → env[i]? = some (slot env i)
  | [], _, h => absurd rfl h
  | _ :: _, 0, _ => rfl
  | _ :: r, n + 1, h => by
    rw [List.getElem?_cons_succ]
    exact slot_get (env := r) h
theorem slot_eq : ∀ {env : Nv} {i : Nat} {t : T}, env[i]? = some t → slot env i = t
  | [], _, _, h => by simp at h
  | _ :: _, 0, _, h => by simpa [slot] using h
  | _ :: r, n + 1, _, h => by
    rw [List.getElem?_cons_succ] at h
    exact slot_eq (env := r) h

/-! ### judgements -/
def PD (X : Cx) (W : WX) (e : Expr) (α : SE) : Prop := PE X e (tE X.K W α)
def PDB (X : Cx) (W : WX) (e : Expr) (β : SB) : Prop := PT X e (tT X.K W β)
def PDA (X : Cx) (W : WX) (es : List Expr) (γ : SA) : Prop := PA X es (tA X.K W γ)
theorem pe_weak {X : Cx} {e : Expr} {t t' : TE} (h : PE X e t) (f : ∀ σ H Q, t' σ H Q → t σ H Q) : PE X e t' := ⟨fun pins s σ H Q I q => h.run pins s σ H Q I (f _ _ _ q)⟩
theorem pt_weak {X : Cx} {e : Expr} {t t' : TT} (h : PT X e t) (f : ∀ σ H Q, t' σ H Q → t σ H Q) : PT X e t' := ⟨fun pins s σ H Q I q => h.run pins s σ H Q I (f _ _ _ q)⟩
theorem pa_weak {X : Cx} {e : List Expr} {t t' : TA} (h : PA X e t) (f : ∀ σ H Q, t' σ H Q → t σ H Q) : PA X e t' := ⟨fun pos pins s σ H Q I q => h.run pos pins s σ H Q I (f _ _ _ q)⟩
section
variable {X : Cx} {W : WX} {a b c : Expr} {α β γ : SE} {pos : Pos} {p : SB}

/-! ### names and constants -/
/-- a name's value that may be had again -/
def sVar (i : Nat) : SE := fun env k _ => match slot env i with
  | .d x => k (.d x) env
  | _ => False
/-- a name's value, taken out of its slot -/
def sMv (i : Nat) : SE := fun env k _ => match slot env i with
  | .gone => False
  | t => k t (env.set i .gone)
/-- a name's value, from now on stable -/
def sFz (i : Nat) : SE := fun env k _ => match slot env i with
  | .gone => False
  | t => k (.d (frz t)) (env.set i (.d (frz t)))
def sC (v : V) : SE := fun env k _ => k (.fl v) env
theorem mv_get {i : Nat} {env : Nv} {k : EK} {e : XQ} (h : sMv i env k e) : slot env i ≠ .gone ∧ k (slot env i) (env.set i .gone) := by
  unfold sMv at h
  split at h
  · exact h.elim
  · rename_i z
    exact ⟨z, h⟩
theorem fz_get {i : Nat} {env : Nv} {k : EK} {e : XQ} (h : sFz i env k e) : slot env i ≠ .gone ∧ k (.d (frz (slot env i))) (env.set i (.d (frz (slot env i)))) := by
  unfold sFz at h
  split at h
  · exact h.elim
  · rename_i z
    exact ⟨z, h⟩
variable {i : Nat} {x : Str}
theorem d_var (h : PE X a (tVar i)) : PD X W a (sVar i) := pe_weak h fun σ H Q ⟨env, R, k, e, w, q, ok, er⟩ => by
  unfold sVar at q
  split at q
  · rename_i y z
    have hg : slot env i ≠ .gone := by rw [z]; intro c; cases c
    obtain ⟨v, hv, e2⟩ := wd_slot w (slot_get hg) hg
    rw [z] at e2
    refine ⟨v, hv, ok _ _ v H q ?_⟩
    rw [e2] at w ⊢
    exact (wd_dup (w.eq (star_assoc _ _ _))).eq (by ac_rfl)
  · exact q.elim
theorem d_mv (h : PE X a (tVar i)) : PD X W a (sMv i) := pe_weak h fun σ H Q ⟨env, R, k, e, w, q, ok, er⟩ => by
  obtain ⟨hg, q⟩ := mv_get q
  obtain ⟨v, hv, e2⟩ := wd_slot w (slot_get hg) hg
  refine ⟨v, hv, ok _ _ v H q ?_⟩
  rw [e2] at w
  exact w.eq (by ac_rfl)
theorem d_fz (h : PE X a (tVar i)) : PD X W a (sFz i) := pe_weak h fun σ H Q ⟨env, R, k, e, w, q, ok, er⟩ => by
  obtain ⟨hg, q⟩ := fz_get q
  have hs := slot_get hg
  obtain ⟨v, hv, e2⟩ := wd_slot w hs hg
  refine ⟨v, hv, ok _ _ v H q ?_⟩
  rw [EnvA_back hv (List.getElem?_eq_some_iff.mp hs).1]
  rw [e2] at w
  exact (wd_dup (wd_frz (w.eq (star_assoc _ _ _)))).eq (by ac_rfl)
theorem d_c {v : V} (h : PE X a (tC v)) : PD X W a (sC v) := pe_weak h fun σ H Q ⟨env, R, k, e, w, q, ok, er⟩ => ok _ _ v H q (wd_ofl w)
theorem d_int {i : Int} {j : Nat} : PD X W (.Constant (.int i) j pos) (sC (.int i)) := d_c pe_int
theorem d_bl {b : Bool} {j : Nat} : PD X W (.Constant (.bool b) j pos) (sC (.bl b)) := d_c pe_bl
theorem d_non {j : Nat} : PD X W (.Constant .none j pos) (sC .non) := d_c pe_non
theorem d_str {x : Str} {j : Nat} : PD X W (.Constant (.str x) j pos) (sC (.str x)) := d_c pe_str

/-- the slots, laid out as a row -/
def force : Nv → (Nv → Prop) → Prop
  | [], k => k []
  | t :: ts, k => force ts fun us => k (t :: us)
theorem force_iff : ∀ {env : Nv} {k : Nv → Prop}, force env k ↔ k env
  | [], _ => Iff.rfl
  | t :: ts, k => force_iff (env := ts) (k := fun us => k (t :: us))
theorem force_mp {env : Nv} {k : Nv → Prop} (h : force env k) : k env := force_iff.mp h
/-! ### looked at while all stands still -/
/-- asked for -/
def ifT : Bool → Prop → Prop
  | true, P => P
  | false, _ => False
theorem ifT_get {b : Bool} {P : Prop} (h : ifT b P) : b = true ∧ P := by
  cases b with
  | true => exact ⟨rfl, h⟩
  | false => exact h.elim
theorem ifT_of {b : Bool} {P : Prop} (h : b = true) (p : P) : ifT b P := by
  rw [h]
  exact p
def sRd (α : SE) : SE := fun env k _ => α (env.map frzS) (fun t _ => ifT (own t) (k t env)) (fun _ _ => False)
theorem d_rd (h : PD X W a α) : PD X W a (sRd α) := pe_weak h fun σ H Q ⟨env, R, k, e, w, q, ok, er⟩ => by
  have w1 := wd_all (A := EnvA X.K env σ) (B := EnvA X.K (env.map frzS) σ) (fun G h G' p a b => EnvA_frz env σ G h G' p a b) w
  refine ⟨_, _, _, _, w1, q, fun t env' v H' k0 w2 => ?_, ErE.no⟩
  obtain ⟨o, k1⟩ := ifT_get k0
  exact ok t env v H' k1 (wd_back (A := EnvA X.K env' σ) w o (w2.eq (by ac_rfl)))
def sRdB (p : SB) : SB := fun env k _ => p (env.map frzS) (fun b _ => k b env) (fun _ _ => False)
theorem d_rdB (h : PDB X W a p) : PDB X W a (sRdB p) := pt_weak h fun σ H Q ⟨env, R, k, e, w, q, ok, er⟩ => by
  have w1 := wd_all (A := EnvA X.K env σ) (B := EnvA X.K (env.map frzS) σ) (fun G h G' p a b => EnvA_frz env σ G h G' p a b) w
  refine ⟨_, _, _, _, w1, q, fun b env' H' k1 w2 => ?_, ErE.no⟩
  have w3 : Wd H' (emp • kn (fun G => Same H G) • EnvA X.K env' σ) := by
    rw [emp_star]
    exact w2.swap
  have w4 := wd_backG (R0 := EnvA X.K env σ • R) (B := emp) (fun G h G' p a => p) w w3
  rw [emp_star] at w4
  exact ok b env H' k1 w4

/-! ### operators -/
abbrev F2 := T → T → (T → Prop) → Prop
def RB (K : PySem.W.Frag) (f : F2) (r : R2) : Prop := ∀ (ta tb : T) (x y : V) (H : Hp) (A : Asn) (k : T → Prop) (Q : VK), Wd H (Rep K ta x • Rep K tb y • A) → f ta tb k → (∀ t v H', k t → Wd H' (Rep K t v • A) → Q v H') → r x y H Q
def sBin (f : F2) (α β : SE) : SE := fun env k e => α env (fun ta env1 => β env1 (fun tb env2 => f ta tb fun t => k t env2) e) e
theorem op_of {f : F2} {r : R2} (hr : RB X.K f r) {σ : L2.St} {H : Hp} {Q : VK} (h : tE X.K W (sBin f α β) σ H Q) : tOp r (tE X.K W α) (tE X.K W β) σ H Q := by
  obtain ⟨env, R, k, e, w, q, ok, er⟩ := h
  refine ⟨env, R, _, e, w, q, fun ta env1 x H1 k1 w1 => ?_, er⟩
  refine ⟨env1, Rep X.K ta x • R, _, e, w1.eq (by ac_rfl), k1, fun tb env2 y H2 k2 w2 => ?_, er.more⟩
  exact hr ta tb x y H2 (EnvA X.K env2 σ • R) _ Q (w2.eq (by ac_rfl)) k2 fun t v H3 k3 w3 => ok t env2 v H3 k3 w3
theorem d_bin {op : Operator} {f : F2} {r : R2} (ho : OpR X (binaryOp op) r) (hr : RB X.K f r) (ha : PD X W a α) (hb : PD X W b β) : PD X W (.BinOp a op b pos) (sBin f α β) :=
  pe_weak (pe_op ho ha hb) fun _ _ _ h => op_of hr h
theorem d_cmp {op : CmpOp} {f : F2} {r : R2} (ho : OpR X (compareOp op) r) (hr : RB X.K f r) (ha : PD X W a α) (hb : PD X W b β) (hm : behindInMarks op b = false) : PD X W (.Compare a [op] [b] pos) (sBin f α β) :=
  pe_weak (pe_cmpR ho ha hb hm) fun _ _ _ h => op_of hr h
def asB (t : T) (k : Bool → Prop) : Prop := match t with
  | .d (.fl (.bl b)) => k b
  | _ => False
theorem asB_get {t : T} {k : Bool → Prop} (h : asB t k) : ∃ b, t = .bl b ∧ k b := by
  unfold asB at h
  split at h
  · exact ⟨_, rfl, h⟩
  · exact h.elim
/-- a value as a test -/
def sTest (α : SE) : SB := fun env k e => α env (fun t env' => asB t fun b => k b env') e
theorem test_of {σ : L2.St} {H : Hp} {Q : Bool → Hp → Prop} (h : tT X.K W (sTest α) σ H Q) : tE X.K W α σ H fun x H' => ∃ c, x = .bl c ∧ Q c H' := by
  obtain ⟨env, R, k, e, w, q, ok, er⟩ := h
  refine ⟨env, R, _, e, w, q, fun t env1 x H1 k1 w1 => ?_, er⟩
  obtain ⟨b, rfl, k1⟩ := asB_get k1
  obtain rfl := wd_fl w1
  exact ⟨b, rfl, ok b env1 H1 k1 w1.drop⟩
theorem d_tcmp {op : CmpOp} {f : F2} {r : R2} (ho : OpR X (compareOp op) r) (hr : RB X.K f r) (ha : PD X W a α) (hb : PD X W b β) (hm : behindInMarks op b = false) : PDB X W (.Compare a [op] [b] pos) (sTest (sBin f α β)) :=
  pt_weak (pt_cmpR ho ha hb hm) fun σ H Q h => op_of hr (test_of h |> fun z => z)
theorem d_tval (h : PD X W a α) (he : ∀ whole, isTrue a X.env whole = (do let v ← whole; standAt a.pos; holding [v] (truthy v)) := by intro _; rfl) : PDB X W a (sTest α) :=
  pt_weak (pt_val h he) fun _ _ _ h => test_of h
end
end WC

/-! WLe: and, or, not, if else, chains, arguments, displays, subscripts, calls of built-ins. -/
namespace WC
open PySem PySem.Spec PyProof.Rows L2
section
variable {X : Cx} {W : WX} {a b c : Expr} {rest es : List Expr} {α β γ : SE} {pos : Pos} {p q : SB}
def PDW (X : Cx) (W : WX) (e : Expr) (β : SB) : Prop := PW X e (tT X.K W β)
theorem pw_weak {e : Expr} {t t' : TT} (h : PW X e t) (f : ∀ σ H Q, t' σ H Q → t σ H Q) : PW X e t' := ⟨fun wh pins s σ H Q I q => h.run wh pins s σ H Q I (f _ _ _ q)⟩
theorem d_w (h : PDW X W a p) : PDB X W a p := PW.pt h
/-- a test's ways -/
def wh : Bool → Prop → Prop → Prop
  | true, A, _ => A
  | false, _, B => B
def sAnd (p q : SB) : SB := fun env k e => p env (fun b env1 => wh b (q env1 k e) (k false env1)) e
def sOr (p q : SB) : SB := fun env k e => p env (fun b env1 => wh b (k true env1) (q env1 k e)) e
def sNot (p : SB) : SB := fun env k e => p env (fun b env1 => k (!b) env1) e
def sIf (p : SB) (α β : SE) : SE := fun env k e => p env (fun b env1 => wh b (α env1 k e) (β env1 k e)) e
theorem d_and1 (h : PDB X W a p) : PDW X W (.BoolOp .And [a] pos) p := pw_and1 h
theorem d_or1 (h : PDB X W a p) : PDW X W (.BoolOp .Or [a] pos) p := pw_or1 h
theorem d_and (ha : PDB X W a p) (hb : PDW X W (.BoolOp .And (b :: rest) pos) q) : PDW X W (.BoolOp .And (a :: b :: rest) pos) (sAnd p q) :=
  pw_weak (pw_and ha hb) fun σ H Q ⟨env, R, k, e, w, h, ok, er⟩ => ⟨env, R, _, e, w, h, fun b env1 H1 k1 w1 => by
    cases b with
    | true =>
      rw [if_pos rfl]
      exact ⟨env1, R, k, e, w1, k1, ok, er⟩
    | false =>
      rw [if_neg Bool.false_ne_true]
      exact ok _ _ _ k1 w1, er⟩
theorem d_or (ha : PDB X W a p) (hb : PDW X W (.BoolOp .Or (b :: rest) pos) q) : PDW X W (.BoolOp .Or (a :: b :: rest) pos) (sOr p q) :=
  pw_weak (pw_or ha hb) fun σ H Q ⟨env, R, k, e, w, h, ok, er⟩ => ⟨env, R, _, e, w, h, fun b env1 H1 k1 w1 => by
    cases b with
    | true =>
      rw [if_pos rfl]
      exact ok _ _ _ k1 w1
    | false =>
      rw [if_neg Bool.false_ne_true]
      exact ⟨env1, R, k, e, w1, k1, ok, er⟩, er⟩
theorem d_not (ha : PDB X W a p) : PDB X W (.UnaryOp .Not a pos) (sNot p) :=
  pt_weak (pt_not ha) fun σ H Q ⟨env, R, k, e, w, h, ok, er⟩ => ⟨env, R, _, e, w, h, fun b env1 H1 k1 w1 => ok _ _ _ k1 w1, er⟩
theorem d_if (hp : PDB X W c p) (ha : PD X W a α) (hb : PD X W b β) : PD X W (.IfExp c a b pos) (sIf p α β) :=
  pe_weak (pe_ifExp hp ha hb) fun σ H Q ⟨env, R, k, e, w, h, ok, er⟩ => ⟨env, R, _, e, w, h, fun b env1 H1 k1 w1 => by
    cases b with
    | true =>
      rw [if_pos rfl]
      exact ⟨env1, R, k, e, w1, k1, ok, er⟩
    | false =>
      rw [if_neg Bool.false_ne_true]
      exact ⟨env1, R, k, e, w1, k1, ok, er⟩, er⟩
/-! as values -/
def sAndV (α β : SE) : SE := fun env k e => α env (fun t env1 => asB t fun b => wh b (β env1 k e) (k (.bl false) env1)) e
def sOrV (α β : SE) : SE := fun env k e => α env (fun t env1 => asB t fun b => wh b (k (.bl true) env1) (β env1 k e)) e
def sNotV (α : SE) : SE := fun env k e => α env (fun t env1 => asB t fun b => k (.bl (!b)) env1) e
theorem d_one {op : BoolOp} (h : PD X W a α) : PD X W (.BoolOp op [a] pos) α := pe_one h
theorem d_andV (ha : PD X W a α) (hb : PD X W (.BoolOp .And (b :: rest) pos) β) : PD X W (.BoolOp .And (a :: b :: rest) pos) (sAndV α β) :=
  pe_weak (pe_and ha hb) fun σ H Q ⟨env, R, k, e, w, h, ok, er⟩ => ⟨env, R, _, e, w, h, fun t env1 v H1 k1 w1 => by
    obtain ⟨b, rfl, k9⟩ := asB_get k1
    obtain rfl := wd_fl w1
    clear k1
    have k1 := k9
    refine ⟨b, rfl, ?_⟩
    cases b with
    | true =>
      rw [if_pos rfl]
      exact ⟨env1, R, k, e, w1.drop, k1, ok, er⟩
    | false =>
      rw [if_neg Bool.false_ne_true]
      exact ok _ _ _ _ k1 w1, er⟩
theorem d_orV (ha : PD X W a α) (hb : PD X W (.BoolOp .Or (b :: rest) pos) β) : PD X W (.BoolOp .Or (a :: b :: rest) pos) (sOrV α β) :=
  pe_weak (pe_or ha hb) fun σ H Q ⟨env, R, k, e, w, h, ok, er⟩ => ⟨env, R, _, e, w, h, fun t env1 v H1 k1 w1 => by
    obtain ⟨b, rfl, k9⟩ := asB_get k1
    obtain rfl := wd_fl w1
    clear k1
    have k1 := k9
    refine ⟨b, rfl, ?_⟩
    cases b with
    | true =>
      rw [if_pos rfl]
      exact ok _ _ _ _ k1 w1
    | false =>
      rw [if_neg Bool.false_ne_true]
      exact ⟨env1, R, k, e, w1.drop, k1, ok, er⟩, er⟩
theorem d_notV (ha : PD X W a α) : PD X W (.UnaryOp .Not a pos) (sNotV α) :=
  pe_weak (pe_not ha) fun σ H Q ⟨env, R, k, e, w, h, ok, er⟩ => ⟨env, R, _, e, w, h, fun t env1 v H1 k1 w1 => by
    obtain ⟨b, rfl, k1⟩ := asB_get k1
    obtain rfl := wd_fl w1
    exact ⟨b, rfl, ok _ _ _ _ k1 (wd_ofl w1.drop)⟩, er⟩
/-! a < b < c -/
def asD (t : T) (k : D → Prop) : Prop := match t with
  | .d x => k x
  | _ => False
theorem asD_get {t : T} {k : D → Prop} (h : asD t k) : ∃ x, t = .d x ∧ k x := by
  unfold asD at h
  split at h
  · exact ⟨_, rfl, h⟩
  · exact h.elim
def sChain (f g : F2) (α β γ : SE) : SE := fun env k e => α env (fun ta env1 => β env1 (fun tb env2 => asD tb fun y => f ta (.d y) fun z => asB z fun b => wh b (γ env2 (fun tc env3 => g (.d y) tc fun t => k t env3) e) (k (.bl false) env2)) e) e
theorem chain_of {f g : F2} {r r' : R2} (hr : RB X.K f r) (hr' : RB X.K g r') {σ : L2.St} {H : Hp} {Q : VK} (h : tE X.K W (sChain f g α β γ) σ H Q) : tChain r r' (tE X.K W α) (tE X.K W β) (tE X.K W γ) σ H Q := by
  obtain ⟨env, R, k, e, w, q, ok, er⟩ := h
  refine ⟨env, R, _, e, w, q, fun ta env1 x H1 k1 w1 => ?_, er⟩
  refine ⟨env1, Rep X.K ta x • R, _, e, w1.eq (by ac_rfl), k1, fun tb env2 y H2 k2 w2 => ?_, er.more⟩
  obtain ⟨d, rfl, k2⟩ := asD_get k2
  refine hr ta (.d d) x y H2 (Rep X.K (.d d) y • EnvA X.K env2 σ • R) _ _ ((wd_dup w2).eq (by ac_rfl)) k2 fun t v H3 k3 w3 => ?_
  obtain ⟨b, rfl, k9⟩ := asB_get k3
  obtain rfl := wd_fl w3
  clear k3
  have k3 := k9
  refine ⟨b, rfl, ?_⟩
  cases b with
  | true =>
    rw [if_pos rfl]
    refine ⟨env2, Rep X.K (.d d) y • R, _, e, w3.drop.eq (by ac_rfl), k3, fun tc env3 z H4 k4 w4 => ?_, er.more⟩
    exact hr' (.d d) tc y z H4 (EnvA X.K env3 σ • R) _ Q (w4.eq (by ac_rfl)) k4 fun t v H5 k5 w5 => ok t env3 v H5 k5 w5
  | false =>
    rw [if_neg Bool.false_ne_true]
    exact ok _ _ _ _ k3 (wd_ofl (w3.drop.drop))
theorem d_chain {op op' : CmpOp} {f g : F2} {r r' : R2} (ho : OpR X (compareOp op) r) (ho' : OpR X (compareOp op') r') (hr : RB X.K f r) (hr' : RB X.K g r') (ha : PD X W a α) (hb : PD X W b β) (hc : PD X W c γ)
    (hm : lastMarks [op, op'] [b, c] = false := by with_unfolding_all rfl) : PD X W (.Compare a [op, op'] [b, c] pos) (sChain f g α β γ) :=
  pe_weak (pe_chain ho ho' ha hb hc hm) fun _ _ _ h => chain_of hr hr' h
theorem d_tchain {op op' : CmpOp} {f g : F2} {r r' : R2} (ho : OpR X (compareOp op) r) (ho' : OpR X (compareOp op') r') (hr : RB X.K f r) (hr' : RB X.K g r') (ha : PD X W a α) (hb : PD X W b β) (hc : PD X W c γ)
    (hm : lastMarks [op, op'] [b, c] = false := by with_unfolding_all rfl) : PDB X W (.Compare a [op, op'] [b, c] pos) (sTest (sChain f g α β γ)) :=
  pt_weak (pt_chain ho ho' ha hb hc hm) fun _ _ _ h => chain_of hr hr' (test_of h)

/-! ### arguments -/
def sNil : SA := fun env k _ => k [] env
def sCons (α : SE) (γ : SA) : SA := fun env k e => α env (fun t env1 => γ env1 (fun as env2 => k (.v t :: as) env2) e) e
/-- a name's object, lent -/
def sLend (i : Nat) (γ : SA) : SA := fun env k e => match slot env i with
  | .gone => False
  | _ => γ env (fun as env2 => k (.l i :: as) env2) e
variable {g : SA}
theorem d_nil : PDA X W [] sNil := pa_weak pa_nil fun σ H Q ⟨env, R, k, e, w, h, ok, er⟩ => ok [] env [] H h (by
  show Wd H (emp • EnvA X.K env σ • R)
  rw [emp_star]
  exact w)
theorem d_cons (ha : PD X W a α) (hr : PDA X W es g) (hs : starEach (a :: es) X.env = (false, eval a X.env) :: starEach es X.env := by rfl) : PDA X W (a :: es) (sCons α g) :=
  pa_weak (pa_cons ha hr hs) fun σ H Q ⟨env, R, k, e, w, h, ok, er⟩ => ⟨env, R, _, e, w, h, fun t env1 x H1 k1 w1 =>
    ⟨env1, Rep X.K t x • R, _, e, w1.eq (by ac_rfl), k1, fun as env2 vs H2 k2 w2 => ok _ env2 (x :: vs) H2 k2 (by
      show Wd H2 ((Rep X.K t x • ArgA X.K σ as vs) • EnvA X.K env2 σ • R)
      exact w2.eq (by ac_rfl)), er.more⟩, er⟩
theorem d_lend {i : Nat} (ha : PE X a (tVar i)) (hr : PDA X W es g) (hs : starEach (a :: es) X.env = (false, eval a X.env) :: starEach es X.env := by rfl) : PDA X W (a :: es) (sLend i g) :=
  pa_weak (pa_cons ha hr hs) fun σ H Q ⟨env, R, k, e, w, h, ok, er⟩ => by
    have h2 : slot env i ≠ .gone ∧ g env (fun as env2 => k (.l i :: as) env2) e := by
      unfold sLend at h
      split at h
      · exact h.elim
      · rename_i z
        exact ⟨z, h⟩
    obtain ⟨v, hv, e2⟩ := wd_slot w (slot_get h2.1) h2.1
    refine ⟨v, hv, env, R, _, e, w, h2.2, fun as env2 vs H2 k2 w2 => ok _ env2 (v :: vs) H2 k2 ?_, er⟩
    show Wd H2 ((pu (σ[i]? = some (some v)) • ArgA X.K σ as vs) • EnvA X.K env2 σ • R)
    exact (Wd.puR hv w2).eq (by ac_rfl)
/-- all of them values -/
def allV : List Arg → (List T → Prop) → Prop
  | [], k => k []
  | .v t :: as, k => allV as fun ts => k (t :: ts)
  | .l _ :: _, _ => False
theorem allV_get {σ : L2.St} : ∀ {as : List Arg} {k : List T → Prop}, allV as k → ∃ ts, k ts ∧ ∀ vs, ArgA X.K σ as vs = RepL X.K ts vs
  | [], k, h => ⟨[], h, fun vs => by
    cases vs with
    | nil => simp only [RepL]; rfl
    | cons _ _ => simp only [RepL]; rfl⟩
  | .v t :: as, k, h => by
    obtain ⟨ts, h1, h2⟩ := allV_get (as := as) h
    refine ⟨t :: ts, h1, fun vs => ?_⟩
    cases vs with
    | nil => simp only [RepL]; rfl
    | cons v vs =>
      simp only [RepL]
      show Rep X.K t v • ArgA X.K σ as vs = _
      rw [h2]
  | .l _ :: _, _, h => h.elim

/-! ### tuples and lists -/
def allD : List T → Option (List D)
  | [] => some []
  | .d x :: ts => (allD ts).map (x :: ·)
  | _ :: _ => none
theorem allD_eq : ∀ {ts : List T} {ds : List D}, allD ts = some ds → ts = ds.map .d
  | [], ds, h => by
    simp only [allD, Option.some.injEq] at h
    subst h
    rfl
  | .d x :: ts, ds, h => by
    simp only [allD, Option.map_eq_some_iff] at h
    obtain ⟨es, h1, rfl⟩ := h
    rw [allD_eq h1]
    rfl
  | .gone :: _, _, h => by simp [allD] at h
  | .tup _ :: _, _, h => by simp [allD] at h
  | .lst _ :: _, _, h => by simp [allD] at h
  | .dK _ _ :: _, _, h => by simp [allD] at h
  | .dT _ _ :: _, _, h => by simp [allD] at h
  | .ins _ _ _ :: _, _, h => by simp [allD] at h
theorem allD_map : ∀ ds : List D, allD (ds.map .d) = some ds
  | [] => rfl
  | d :: ds => by simp only [List.map_cons, allD, allD_map ds, Option.map_some]
theorem RepL_d {K : PySem.W.Frag} : ∀ {ds : List D} {vs : List V} {G h : Hp}, (RepL K (ds.map .d) vs).P G h ↔ h = Hp0 ∧ DenL K G ds vs
  | [], [], G, h => by
    simp only [List.map_nil, RepL, DenL, and_true]
    exact Iff.rfl
  | [], _ :: _, G, h => by
    simp only [List.map_nil, RepL, DenL, and_false]
    exact Iff.rfl
  | _ :: _, [], G, h => by
    simp only [List.map_cons, RepL, DenL, and_false]
    exact Iff.rfl
  | d :: ds, v :: vs, G, h => by
    simp only [List.map_cons, RepL, DenL]
    constructor
    · rintro ⟨h1, h2, s, a, b⟩
      rw [kn_den] at a
      rw [RepL_d] at b
      obtain ⟨rfl, a⟩ := a
      obtain ⟨rfl, b⟩ := b
      refine ⟨?_, a, b⟩
      rw [s.eq]
      rfl
    · rintro ⟨rfl, a, b⟩
      exact ⟨Hp0, Hp0, spl_empty _, kn_den.mpr ⟨rfl, a⟩, RepL_d.mpr ⟨rfl, b⟩⟩
/-- a tuple of these: stable where they are -/
def mkTup (ts : List T) : T := match allD ts with
  | some ds => .d (.tup ds)
  | none => .tup ts
theorem wd_mkTup {K : PySem.W.Frag} {H : Hp} {ts : List T} {vs : List V} {A : Asn} {p : Addr} (w : Wd H (kn (fun G => TupA K G p vs) • RepL K ts vs • A)) : Wd H (Rep K (mkTup ts) (.ref p) • A) := by
  unfold mkTup
  cases e : allD ts with
  | some ds =>
    rw [allD_eq e] at w
    have w2 : Wd H ((kn (fun G => TupA K G p vs) • RepL K (ds.map .d) vs) • A) := w.eq (by ac_rfl)
    refine w2.impL fun G h q => ?_
    obtain ⟨h1, h2, s, ⟨rfl, a⟩, b⟩ := q
    rw [RepL_d] at b
    obtain ⟨rfl, b⟩ := b
    rw [kn_den]
    refine ⟨?_, ?_⟩
    · rw [s.eq]
      rfl
    · simp only [Den]
      exact ⟨p, vs, rfl, a G (Same.refl G), b⟩
  | none =>
    simp only [Rep]
    refine Wd.exR p (Wd.exR vs ?_)
    exact (Wd.puR rfl w).eq (by ac_rfl)
/-- a list that is owned -/
theorem wd_lst {K : PySem.W.Frag} {H : Hp} {ts : List T} {vs : List V} {A : Asn} {p : Addr} (w : Wd H (pt p (.lst vs) • RepL K ts vs • A)) : Wd H (Rep K (.lst ts) (.ref p) • A) := by
  simp only [Rep]
  refine Wd.exR p (Wd.exR vs ?_)
  exact (Wd.puR rfl w).eq (by ac_rfl)
theorem wd_unlst {K : PySem.W.Frag} {H : Hp} {ts : List T} {v : V} {A : Asn} (w : Wd H (Rep K (.lst ts) v • A)) : ∃ p vs, v = .ref p ∧ Wd H (pt p (.lst vs) • RepL K ts vs • A) := by
  simp only [Rep] at w
  obtain ⟨p, w⟩ := w.exL
  obtain ⟨vs, w⟩ := w.exL
  have w2 : Wd H (pu (v = .ref p) • (pt p (.lst vs) • RepL K ts vs • A)) := w.eq (by ac_rfl)
  exact ⟨p, vs, w2.puL.1, w2.puL.2⟩
theorem wd_newTup {K : PySem.W.Frag} {H : Hp} {vs : List V} {A : Asn} {p : Addr} (w : Wd H A) (n : H p = none) : Wd (upd H p (.tup vs)) (kn (fun G => TupA K G p vs) • A) := wd_know (w.lay n) fun G q => .inl q
theorem le_line {n : Nat} (h : Nat.ble n 1000 = true) : n ≤ sizeLine := Nat.le_trans (Nat.le_of_ble_eq_true h) (by decide)
def sTup (g : SA) : SE := fun env k e => g env (fun as env1 => allV as fun ts => ifT (Nat.ble ts.length 1000) (k (mkTup ts) env1)) e
def sLst (g : SA) : SE := fun env k e => g env (fun as env1 => allV as fun ts => ifT (Nat.ble ts.length 1000) (k (.lst ts) env1)) e
theorem d_tup {x1 : Nat} (h : PDA X W es g) : PD X W (.Tuple es x1 pos) (sTup g) :=
  pe_weak (pe_tup h) fun σ H Q ⟨env, R, k, e, w, h, ok, er⟩ => ⟨env, R, _, e, w, h, fun as env1 vs H1 k1 w1 => by
    obtain ⟨ts, k0, e2⟩ := allV_get (σ := σ) (X := X) k1
    obtain ⟨hl, k1⟩ := ifT_get k0
    rw [e2] at w1
    have hl2 := w1.lenL
    refine ⟨by rw [← hl2]; exact le_line hl, fun p hp => ok _ env1 _ _ k1 ?_⟩
    exact wd_mkTup (wd_newTup w1 hp), er⟩
theorem d_lst (h : PDA X W es g) : PD X W (.List es pos) (sLst g) :=
  pe_weak (pe_lst h) fun σ H Q ⟨env, R, k, e, w, h, ok, er⟩ => ⟨env, R, _, e, w, h, fun as env1 vs H1 k1 w1 => by
    obtain ⟨ts, k0, e2⟩ := allV_get (σ := σ) (X := X) k1
    obtain ⟨hl, k1⟩ := ifT_get k0
    rw [e2] at w1
    have hl2 := w1.lenL
    refine ⟨by rw [← hl2]; exact le_line hl, fun p hp => ok _ env1 _ _ k1 ?_⟩
    exact wd_lst (w1.alloc hp fun xs z => by cases z), er⟩

/-! ### calls of what is built in -/
abbrev FC := List T → (T → Prop) → Prop
def RC (K : PySem.W.Frag) (f : FC) (r : List V → Hp → VK → Prop) : Prop := ∀ (ts : List T) (vs : List V) (H : Hp) (A : Asn) (k : T → Prop) (Q : VK), Wd H (RepL K ts vs • A) → f ts k → (∀ t v H', k t → Wd H' (Rep K t v • A) → Q v H') → r vs H Q
def sCB (f : FC) (g : SA) : SE := fun env k e => g env (fun as env1 => allV as fun ts => f ts fun t => k t env1) e
theorem cb_of {f : FC} {r : List V → Hp → VK → Prop} (hr : RC X.K f r) {σ : L2.St} {H : Hp} {Q : VK} (h : tE X.K W (sCB f g) σ H Q) : tCB r (tA X.K W g) σ H Q := by
  obtain ⟨env, R, k, e, w, q, ok, er⟩ := h
  refine ⟨env, R, _, e, w, q, fun as env1 vs H1 k1 w1 => ?_, er⟩
  obtain ⟨ts, k1, e2⟩ := allV_get (σ := σ) (X := X) k1
  rw [e2] at w1
  exact hr ts vs H1 _ _ Q w1 k1 fun t v H' k2 w2 => ok t env1 v H' k2 w2
variable {x : Str} {f : FC} {r : List V → Hp → VK → Prop} {p1 : Pos}
theorem d_callB {id : String} (hc : CallR X (.builtin id) r) (hr : RC X.K f r) (hg : Gl X x) (hm : X.mg x = none) (hv : bootBuiltins x = some (.builtin id)) (ha : PDA X W (a :: es) g) (hn : x ≠ "__name__" := by decide) (hdb : (x == ("__debug__" : Str)) = false := by decide)
    (he : starEach (a :: es) X.env = (false, eval a X.env) :: starEach es X.env := by rfl) (hpl : (backTo pos (starEach es X.env)).any (·.1) = false := by rfl) : PD X W (.Call (.Name x p1) (a :: es) [] pos) (sCB f g) :=
  pe_weak (pe_callB hc hg hm hv ha hn hdb he hpl) fun _ _ _ h => cb_of hr h
theorem d_callTy {Ty : String} (hc : CallR X (.type Ty) r) (hr : RC X.K f r) (hg : Gl X x) (hm : X.mg x = none) (hv : bootBuiltins x = some (.type Ty)) (ha : PDA X W (a :: es) g) (hn : x ≠ "__name__" := by decide) (hdb : (x == ("__debug__" : Str)) = false := by decide)
    (he : starEach (a :: es) X.env = (false, eval a X.env) :: starEach es X.env := by rfl) (hpl : (backTo pos (starEach es X.env)).any (·.1) = false := by rfl) : PD X W (.Call (.Name x p1) (a :: es) [] pos) (sCB f g) :=
  pe_weak (pe_callTy hc hg hm hv ha hn hdb he hpl) fun _ _ _ h => cb_of hr h
/-! subscripts -/
theorem d_ix {f : F2} {r : R2} (ho : IxR X r) (hr : RB X.K f r) (ha : PD X W a α) (hb : PD X W b β) (hs : PlainIx b := by exact fun _ _ => rfl) : PD X W (.Subscript a b pos) (sBin f α β) :=
  pe_weak (pe_ix ho ha hb hs) fun _ _ _ h => op_of hr h
end
end WC

/-! WLf: statements, loops, comprehensions, defs. -/
namespace WC
open PySem PySem.Spec PyProof.Rows L2
/-- but at the slots of B nothing has changed -/
def Kp (B : Nat → Bool) (σ σ' : L2.St) : Prop := σ'.length = σ.length ∧ ∀ j, B j = false → σ'[j]? = σ[j]?
theorem Kp.refl {B : Nat → Bool} {σ : L2.St} : Kp B σ σ := ⟨rfl, fun _ _ => rfl⟩
theorem Kp.trans {B : Nat → Bool} {σ σ' σ'' : L2.St} (a : Kp B σ σ') (b : Kp B σ' σ'') : Kp B σ σ'' := ⟨b.1.trans a.1, fun j h => (b.2 j h).trans (a.2 j h)⟩
theorem Kp.set {B : Nat → Bool} {σ : L2.St} {i : Nat} {v : Option V} (h : B i = true) : Kp B σ (σ.set i v) := ⟨List.length_set, fun j hj => List.getElem?_set_ne (fun e => by rw [e, hj] at h; cases h)⟩
section
variable (K : PySem.W.Frag) (W : WX) (B : Nat → Bool)
structure OkS (σ : L2.St) (R : Asn) (E : EndT) (D : Ends) : Prop where
  nx : ∀ env σ' H, E.nx env → Kp B σ σ' → Wd H (EnvA K env σ' • R) → D.nx σ' H
  rt : ∀ t env σ' v H, E.rt t env → Kp B σ σ' → Wd H (Rep K t v • EnvA K env σ' • R) → D.rt v H
  bk : ∀ env σ' H, E.bk env → Kp B σ σ' → Wd H (EnvA K env σ' • R) → D.bk σ' H
  ct : ∀ env σ' H, E.ct env → Kp B σ σ' → Wd H (EnvA K env σ' • R) → D.ct σ' H
  er : ∀ x env σ' cls d H, E.ex x env → Kp B σ σ' → Wd H (ExnA K x cls d • EnvA K env σ' • R) → W cls d σ' H
def tS (δ : SS) : TS := fun D σ H => ∃ env R E, Wd H (EnvA K env σ • R) ∧ δ E env ∧ OkS K W B σ R E D
def tG (g : STG) : TG := fun v σ H Q => ∃ t env R k, Wd H (Rep K t v • EnvA K env σ • R) ∧ g t env k ∧ ∀ env' σ' H', k env' → Kp B σ σ' → Wd H' (EnvA K env' σ' • R) → Q σ' H'
abbrev STGs := List T → Nv → (Nv → Prop) → Prop
def tGs (g : STGs) : TGs := fun vs σ H Q => ∃ ts env R k, Wd H (RepL K ts vs • EnvA K env σ • R) ∧ g ts env k ∧ ∀ env' σ' H', k env' → Kp B σ σ' → Wd H' (EnvA K env' σ' • R) → Q σ' H'
end
section
variable {K : PySem.W.Frag} {W : WX} {B : Nat → Bool} {σ σ' : L2.St} {R A : Asn} {E : EndT} {D : Ends}
theorem OkS.mid (ok : OkS K W B σ R E D) (h : Kp B σ σ') : OkS K W B σ' R E D :=
  ⟨fun env s H q k w => ok.nx env s H q (h.trans k) w, fun t env s v H q k w => ok.rt t env s v H q (h.trans k) w, fun env s H q k w => ok.bk env s H q (h.trans k) w, fun env s H q k w => ok.ct env s H q (h.trans k) w,
    fun x env s cls d H q k w => ok.er x env s cls d H q (h.trans k) w⟩
theorem OkS.ee (ok : OkS K W B σ R E D) : ErE K W σ R E.ex := fun x env cls d H q w => ok.er x env σ cls d H q Kp.refl w
theorem wd_under {H : Hp} {A B C : Asn} {P Q : Asn} (w : Wd H (P • Q • A • C)) : Wd H (P • Q • C) := by
  have w2 : Wd H (A • (P • Q • C)) := w.eq (by ac_rfl)
  exact w2.drop
theorem OkS.more (ok : OkS K W B σ R E D) : OkS K W B σ (A • R) E D :=
  ⟨fun env s H q k w => ok.nx env s H q k (by
    have w2 : Wd H (A • (EnvA K env s • R)) := w.eq (by ac_rfl)
    exact w2.drop), fun t env s v H q k w => ok.rt t env s v H q k (wd_under (B := A) w), fun env s H q k w => ok.bk env s H q k (by
    have w2 : Wd H (A • (EnvA K env s • R)) := w.eq (by ac_rfl)
    exact w2.drop), fun env s H q k w => ok.ct env s H q k (by
    have w2 : Wd H (A • (EnvA K env s • R)) := w.eq (by ac_rfl)
    exact w2.drop), fun x env s cls d H q k w => ok.er x env s cls d H q k (wd_under (B := A) w)⟩
end
def PDS (X : Cx) (W : WX) (B : Nat → Bool) (st : Stmt) (δ : SS) : Prop := PS X st (tS X.K W B δ)
def PDSs (X : Cx) (W : WX) (B : Nat → Bool) (st : List Stmt) (δ : SS) : Prop := PSs X st (tS X.K W B δ)
def PDG (X : Cx) (B : Nat → Bool) (tg : Expr) (g : STG) : Prop := PG X tg (tG X.K B g)
def PDGs (X : Cx) (B : Nat → Bool) (tgs : List Expr) (g : STGs) : Prop := PGs X tgs (tGs X.K B g)
theorem ps_weak {X : Cx} {e : Stmt} {t t' : TS} (h : PS X e t) (f : ∀ D σ H, t' D σ H → t D σ H) : PS X e t' := ⟨fun pins s σ H D I q => h.run pins s σ H D I (f _ _ _ q)⟩
theorem pss_weak {X : Cx} {e : List Stmt} {t t' : TS} (h : PSs X e t) (f : ∀ D σ H, t' D σ H → t D σ H) : PSs X e t' := ⟨fun pins s σ H D I q => h.run pins s σ H D I (f _ _ _ q)⟩
theorem pg_weak {X : Cx} {e : Expr} {t t' : TG} (h : PG X e t) (f : ∀ v σ H Q, t' v σ H Q → t v σ H Q) : PG X e t' := ⟨fun pins s σ H v u Q I r q => h.run pins s σ H v u Q I r (f _ _ _ _ q)⟩
theorem pgs_weak {X : Cx} {e : List Expr} {t t' : TGs} (h : PGs X e t) (f : ∀ v σ H Q, t' v σ H Q → t v σ H Q) : PGs X e t' := ⟨fun pins s σ H v u Q I r q => h.run pins s σ H v u Q I r (f _ _ _ _ q)⟩
section
variable {X : Cx} {W : WX} {B : Nat → Bool} {st : Stmt} {rest body : List Stmt} {a c iter tg : Expr} {es : List Expr} {α β : SE} {p : SB} {δ δ' : SS} {g : STG} {gs : STGs} {pos : Pos}
def sSkip : SS := fun E env => E.nx env
def sSeq (δ δ' : SS) : SS := fun E env => δ ⟨δ' E, E.rt, E.bk, E.ct, E.ex⟩ env
theorem d_skip : PDSs X W B [] sSkip := pss_weak pss_nil fun D σ H ⟨env, R, E, w, h, ok⟩ => ok.nx env σ H h Kp.refl w
theorem d_seq (h1 : PDS X W B st δ) (h2 : PDSs X W B rest δ') : PDSs X W B (st :: rest) (sSeq δ δ') :=
  pss_weak (pss_cons h1 h2) fun D σ H ⟨env, R, E, w, h, ok⟩ => ⟨env, R, _, w, h, fun env' σ' H' q k w' => ⟨env', R, E, w', q, ok.mid k⟩, ok.rt, ok.bk, ok.ct, ok.er⟩
theorem d_last (h1 : PDS X W B st δ) : PDSs X W B [st] δ := pss_one h1
theorem d_pass : PDS X W B (.Pass pos) sSkip := ps_weak ps_pass fun D σ H ⟨env, R, E, w, h, ok⟩ => ok.nx env σ H h Kp.refl w
def sDrop (α : SE) : SS := fun E env => α env (fun _ env' => E.nx env') E.ex
theorem d_drop (h : PD X W a α) (hs : swapsWith a none pos.line X.env = pure false := by rfl) : PDS X W B (.Expr a pos) (sDrop α) :=
  ps_weak (ps_expr h hs) fun D σ H ⟨env, R, E, w, h, ok⟩ => ⟨env, R, _, _, w, h, fun t env' v H' q w' => ok.nx env' σ H' q Kp.refl w'.drop, ok.ee⟩
def sRet (α : SE) : SS := fun E env => α env E.rt E.ex
def sRetN : SS := fun E env => E.rt .non env
theorem d_ret (h : PD X W a α) : PDS X W B (.Return (some a) pos) (sRet α) :=
  ps_weak (ps_ret h) fun D σ H ⟨env, R, E, w, h, ok⟩ => ⟨env, R, _, _, w, h, fun t env' v H' q w' => ok.rt t env' σ v H' q Kp.refl w', ok.ee⟩
theorem d_retN : PDS X W B (.Return none pos) sRetN := ps_weak ps_retN fun D σ H ⟨env, R, E, w, h, ok⟩ => ok.rt _ env σ _ H h Kp.refl (wd_ofl w)
def sIfS (p : SB) (δ δ' : SS) : SS := fun E env => p env (fun b env' => wh b (δ E env') (δ' E env')) E.ex
theorem d_ifS {o : List Stmt} (hc : PDB X W c p) (h1 : PDSs X W B body δ) (h2 : PDSs X W B o δ') : PDS X W B (.If c body o pos) (sIfS p δ δ') :=
  ps_weak (ps_if hc h1 h2) fun D σ H ⟨env, R, E, w, h, ok⟩ => ⟨env, R, _, _, w, h, fun b env' H' q w' => by
    cases b with
    | true =>
      rw [if_pos rfl]
      exact ⟨env', R, E, w', q, ok⟩
    | false =>
      rw [if_neg Bool.false_ne_true]
      exact ⟨env', R, E, w', q, ok⟩, ok.ee⟩
def sNever : SS := fun _ _ => False
theorem d_never : PDS X W B st sNever := ps_weak ps_never fun D σ H ⟨env, R, E, w, h, ok⟩ => h
theorem d_nevers : PDSs X W B rest sNever := pss_weak pss_never fun D σ H ⟨env, R, E, w, h, ok⟩ => h

/-! ### targets -/
def gN (i : Nat) : STG := fun t env k => force (env.set i t) k
theorem wd_set {K : PySem.W.Frag} {H : Hp} {t : T} {v : V} {env : Nv} {σ : L2.St} {R : Asn} {i : Nat} (w : Wd H (Rep K t v • EnvA K env σ • R)) : Wd H (EnvA K (env.set i t) (σ.set i (some v)) • R) := by
  by_cases hi : i < env.length
  · have hl : env.length = σ.length := by
      have w2 : Wd H (EnvA K env σ • (Rep K t v • R)) := w.eq (by ac_rfl)
      exact w2.len
    have hs : i < σ.length := by omega
    rw [EnvA_put hi hs]
    have e : EnvA K env σ = SlotA K env[i] σ[i] • EnvA K (env.set i .gone) σ := EnvA_take (List.getElem?_eq_getElem hi) (List.getElem?_eq_getElem hs)
    rw [e] at w
    have w2 : Wd H (SlotA K env[i] σ[i] • (Rep K t v • EnvA K (env.set i .gone) σ • R)) := w.eq (by ac_rfl)
    exact w2.drop.eq (by ac_rfl)
  · have hl : env.length = σ.length := by
      have w2 : Wd H (EnvA K env σ • (Rep K t v • R)) := w.eq (by ac_rfl)
      exact w2.len
    rw [List.set_eq_of_length_le (by omega), List.set_eq_of_length_le (by omega)]
    exact w.drop
theorem d_gN {i : Nat} (hB : B i = true) (h : PG X tg (gName i)) : PDG X B tg (gN i) :=
  pg_weak h fun v σ H Q ⟨t, env, R, k, w, h, ok⟩ => ok _ _ H (force_mp h) (Kp.set hB) (wd_set w)
def gNil : STGs := fun ts env k => match ts with
  | [] => k env
  | _ :: _ => False
def gCons (g : STG) (gs : STGs) : STGs := fun ts env k => match ts with
  | t :: r => g t env fun env' => gs r env' k
  | [] => False
theorem d_gnil : PDGs X B [] gNil := pgs_weak pgs_nil fun vs σ H Q ⟨ts, env, R, k, w, h, ok⟩ => by
  cases ts with
  | nil =>
    cases vs with
    | nil =>
      refine ⟨rfl, ok env σ H h Kp.refl ?_⟩
      rw [RepL_nil, emp_star] at w
      exact w
    | cons v vs =>
      have hl := w.lenL
      simp at hl
  | cons t r => exact h.elim
theorem d_gcons (h1 : PDG X B a g) (h2 : PDGs X B es gs) (hs : (assignEach (a :: es) X.env).map (·.2) = assign a X.env :: (assignEach es X.env).map (·.2) := by rfl) : PDGs X B (a :: es) (gCons g gs) :=
  pgs_weak (pgs_cons h1 h2 hs) fun vs σ H Q ⟨ts, env, R, k, w, h, ok⟩ => by
    cases ts with
    | nil => exact h.elim
    | cons t r =>
      cases vs with
      | nil =>
        have hl := w.lenL
        simp at hl
      | cons v vs =>
        rw [RepL_cons] at w
        refine ⟨v, vs, rfl, t, env, RepL X.K r vs • R, _, w.eq (by ac_rfl), h, fun env' σ' H' q kp w' => ?_⟩
        exact ⟨r, env', R, k, w'.eq (by ac_rfl), q, fun env2 σ2 H2 q2 kp2 w2 => ok env2 σ2 H2 q2 (kp.trans kp2) w2⟩
/-- the items of a tuple -/
def asU (t : T) (k : List T → Prop) : Prop := match t with
  | .d (.tup ds) => k (ds.map .d)
  | .tup ts => k ts
  | _ => False
theorem wd_untup {K : PySem.W.Frag} {H : Hp} {t : T} {v : V} {A : Asn} {k : List T → Prop} (h : asU t k) (w : Wd H (Rep K t v • A)) : ∃ p ts vs, v = .ref p ∧ SqT K H p vs ∧ k ts ∧ Wd H (RepL K ts vs • A) ∧ ts.length = vs.length := by
  unfold asU at h
  split at h
  · rename_i ds
    obtain ⟨G, h1, a, b, c, d, x, y, s, q, z⟩ := w
    rw [kn_den] at q
    obtain ⟨rfl, q⟩ := q
    simp only [Den] at q
    obtain ⟨p, vs, e, hT, hL⟩ := q
    exact ⟨p, ds.map .d, vs, e, (hT.same a).sq, h, ⟨G, h1, a, b, c, d, Hp0, y, s, RepL_d.mpr ⟨rfl, hL⟩, z⟩, by rw [List.length_map]; exact DenL_len hL⟩
  · rename_i ts
    simp only [Rep] at w
    obtain ⟨p, w⟩ := w.exL
    obtain ⟨vs, w⟩ := w.exL
    have w2 : Wd H (pu (v = .ref p) • (kn (fun G => TupA K G p vs) • (RepL K ts vs • A))) := w.eq (by ac_rfl)
    have w3 := w2.puL.2
    exact ⟨p, ts, vs, w2.puL.1, w3.knL.sq, h, w3.knD, w3.knD.lenL⟩
  · exact h.elim
end
end WC

/-! WLg: assignments, for, while, comprehensions, defs. -/
namespace WC
open PySem PySem.Spec PyProof.Rows L2
section
variable {X : Cx} {W : WX} {B : Nat → Bool} {st : Stmt} {rest body : List Stmt} {a b c iter tg : Expr} {es : List Expr} {α β : SE} {p : SB} {δ δ' : SS} {g : STG} {gs : STGs} {pos : Pos}
/-- a, b = a tuple of n -/
def gT (n : Nat) (gs : STGs) : STG := fun t env k => asU t fun ts => ifT (Nat.beq ts.length n) (gs ts env k)
theorem d_gT {n k : Nat} (hc : X.calm = true) (h : PDGs X B es gs) (hn : (assignEach es X.env).length = n := by rfl) (hst : (assignEach es X.env).findIdx? (·.1) = none := by rfl) : PDG X B (.Tuple es k pos) (gT n gs) :=
  pg_weak (pg_tup hc h hn hst) fun v σ H Q ⟨t, env, R, k, w, h, ok⟩ => by
    obtain ⟨p, ts, vs, e, hT, h0, w2, hl2⟩ := wd_untup h w
    obtain ⟨hl, h2⟩ := ifT_get h0
    have hl := Nat.eq_of_beq_eq_true hl
    exact ⟨p, vs, e, hT, by rw [← hl2]; exact hl, ts, env, R, k, w2, h2, ok⟩
def asL (t : T) (k : List T → Prop) : Prop := match t with
  | .lst ts => k ts
  | _ => False
theorem asL_get {t : T} {k : List T → Prop} (h : asL t k) : ∃ ts, t = .lst ts ∧ k ts := by
  unfold asL at h
  split at h
  · exact ⟨_, rfl, h⟩
  · exact h.elim
def asI (t : T) (k : Int → Prop) : Prop := match t with
  | .d (.fl (.int i)) => k i
  | _ => False
theorem asI_get {t : T} {k : Int → Prop} (h : asI t k) : ∃ i, t = .int i ∧ k i := by
  unfold asI at h
  split at h
  · exact ⟨_, rfl, h⟩
  · exact h.elim
def asN (o : Option Nat) (k : Nat → Prop) : Prop := match o with
  | some n => k n
  | none => False
theorem asN_get {o : Option Nat} {k : Nat → Prop} (h : asN o k) : ∃ n, o = some n ∧ k n := by
  cases o with
  | some n => exact ⟨n, rfl, h⟩
  | none => exact h.elim
/-- x[β] = t, x an owned list in slot i -/
def gSetL (i : Nat) (β : SE) : STG := fun t env k => asL (slot env i) fun _ => β env (fun tj env1 => asI tj fun j => asL (slot env1 i) fun ts => asN (ixN ts.length j) fun m => force (env1.set i (.lst (ts.set m t))) k) (fun _ _ => False)
theorem RepL_take {K : PySem.W.Frag} : ∀ {ts : List T} {vs : List V} {i : Nat} {t : T} {v : V}, ts[i]? = some t → vs[i]? = some v → RepL K ts vs = Rep K t v • RepL K (ts.set i .gone) vs
  | [], _, _, _, _, h, _ => by simp at h
  | _ :: _, [], _, _, _, _, h => by simp at h
  | u :: ts, y :: vs, 0, t, v, h1, h2 => by
    simp only [List.getElem?_cons_zero, Option.some.injEq] at h1 h2
    subst h1
    subst h2
    rw [List.set_cons_zero, RepL_cons, RepL_cons]
    have e : Rep K .gone y = emp := by simp only [Rep]
    rw [e, emp_star]
  | u :: ts, y :: vs, i + 1, t, v, h1, h2 => by
    simp only [List.getElem?_cons_succ] at h1 h2
    rw [List.set_cons_succ, RepL_cons, RepL_cons, RepL_take h1 h2, star_left]
theorem RepL_put {K : PySem.W.Frag} : ∀ {ts : List T} {vs : List V} {i : Nat} {t : T} {v : V}, i < ts.length → i < vs.length → RepL K (ts.set i t) (vs.set i v) = Rep K t v • RepL K (ts.set i .gone) vs
  | [], _, _, _, _, h, _ => by simp at h
  | _ :: _, [], _, _, _, _, h => by simp at h
  | u :: ts, y :: vs, 0, t, v, h1, h2 => by
    rw [List.set_cons_zero, List.set_cons_zero, List.set_cons_zero, RepL_cons, RepL_cons]
    have e : Rep K .gone y = emp := by simp only [Rep]
    rw [e, emp_star]
  | u :: ts, y :: vs, i + 1, t, v, h1, h2 => by
    simp only [List.length_cons, Nat.add_lt_add_iff_right] at h1 h2
    rw [List.set_cons_succ, List.set_cons_succ, List.set_cons_succ, RepL_cons, RepL_cons, RepL_put h1 h2, star_left]
theorem ixN_lt {n m : Nat} {j : Int} (h : ixN n j = some m) : m < n := (ixN_seq h).2.1
/-- an owned list in a slot, opened -/
theorem wd_slotL {K : PySem.W.Frag} {H : Hp} {env : Nv} {σ : L2.St} {R : Asn} {i : Nat} {ts : List T} (w : Wd H (EnvA K env σ • R)) (h : slot env i = .lst ts) :
    ∃ q vs, σ[i]? = some (some (.ref q)) ∧ Wd H (pt q (.lst vs) • RepL K ts vs • EnvA K (env.set i .gone) σ • R) ∧ ∀ ts' vs' H', Wd H' (pt q (.lst vs') • RepL K ts' vs' • EnvA K (env.set i .gone) σ • R) → Wd H' (EnvA K (env.set i (.lst ts')) σ • R) := by
  have hg : slot env i ≠ .gone := by rw [h]; intro z; cases z
  have hs := slot_get hg
  obtain ⟨v, hv, e2⟩ := wd_slot w hs hg
  rw [e2, h] at w
  obtain ⟨q, vs, rfl, w2⟩ := wd_unlst (w.eq (star_assoc _ _ _))
  refine ⟨q, vs, hv, w2, fun ts' vs' H' w3 => ?_⟩
  rw [EnvA_back hv (List.getElem?_eq_some_iff.mp hs).1]
  exact (wd_lst w3).eq (by ac_rfl)
theorem d_gSetL {i : Nat} (h : PG X tg (gSub (tVar i) (tE X.K (fun _ _ _ _ => False) β) rSetL)) : PDG X B tg (gSetL i β) :=
  pg_weak h fun v σ H Q ⟨t, env, R, k, w, h, ok⟩ => by
    have w1 : Wd H (EnvA X.K env σ • (Rep X.K t v • R)) := w.eq (by ac_rfl)
    obtain ⟨ts0, e0, h⟩ := asL_get h
    have hg0 : slot env i ≠ .gone := by rw [e0]; intro z; cases z
    obtain ⟨x, hx, _⟩ := wd_slot w1 (slot_get hg0) hg0
    · refine ⟨x, hx, env, Rep X.K t v • R, _, _, w1, h, fun tj env1 y H1 k1 w2 => ?_, ErE.no⟩
      obtain ⟨j, rfl, k1⟩ := asI_get k1
      obtain ⟨ts, e, k1⟩ := asL_get k1
      obtain ⟨m, em, k1⟩ := asN_get k1
      obtain rfl := wd_fl w2
      obtain ⟨q, vs, hq, w3, back⟩ := wd_slotL (w2.drop) e
      rw [hx] at hq
      cases hq
      have hl : ts.length = vs.length := (w3.drop).lenL
      refine ⟨q, vs, j, m, rfl, rfl, w3.get, by rw [← hl]; exact em, ok _ σ _ (force_mp k1) Kp.refl ?_⟩
      have hm := ixN_lt em
      have e3 : RepL X.K ts vs = Rep X.K ts[m] vs[m] • RepL X.K (ts.set m .gone) vs := RepL_take (List.getElem?_eq_getElem hm) (List.getElem?_eq_getElem (by omega))
      have w4 := w3.write (o' := .lst (vs.set m v)) fun xs z => by cases z
      rw [e3] at w4
      have w5 : Wd (upd H1 q (.lst (vs.set m v))) (Rep X.K ts[m] vs[m] • (pt q (.lst (vs.set m v)) • (Rep X.K t v • RepL X.K (ts.set m .gone) vs) • EnvA X.K (env1.set i .gone) σ • R)) := w4.eq (by ac_rfl)
      have w6 := w5.drop
      rw [← RepL_put hm (by omega)] at w6
      have hg : slot env1 i ≠ .gone := by rw [e]; intro z; cases z
      have hs := slot_get hg
      rw [EnvA_back hx (List.getElem?_eq_some_iff.mp hs).1]
      exact (wd_lst w6).eq (by ac_rfl)
/-! assignments -/
def sAsg (α : SE) (g : STG) : SS := fun E env => α env (fun t env1 => g t env1 E.nx) E.ex
theorem asg_of {D : Ends} {σ : L2.St} {H : Hp} (h : tS X.K W B (sAsg α g) D σ H) : tAsg (tE X.K W α) (tG X.K B g) D σ H := by
  obtain ⟨env, R, E, w, h, ok⟩ := h
  exact ⟨env, R, _, _, w, h, fun t env1 v H1 k1 w1 => ⟨t, env1, R, _, w1, k1, fun env' σ' H' q kp w' => ok.nx env' σ' H' q kp w'⟩, ok.ee⟩
theorem d_asg (he : PD X W a α) (hg : PDG X B tg g) (hs : swapsWithSole [tg] a pos.line X.env = pure false := by rfl) (hw : swappedStores [tg] a X.env = pure none := by rfl) (h1 : (assignEach [tg] X.env).map (·.2) = [assign tg X.env] := by rfl) : PDS X W B (.Assign [tg] a pos) (sAsg α g) :=
  ps_weak (ps_asg he hg hs hw h1) fun _ _ _ h => asg_of h
theorem d_set {i : Nat} {x : Str} {pos' : Pos} (hB : B i = true) (hN : X.N.Nodup) (hi : X.N[i]? = some x) (hx : Loc X.env.scope x) (he : PD X W a α) (hs : swapsWith a (some (.Name x pos')) pos.line X.env = pure false := by rfl)
    (hf : X.fn x = true ∨ X.env.scope.names.lookup x = some .local := by first | exact .inl rfl | exact .inr rfl | assumption) : PDS X W B (.Assign [.Name x pos'] a pos) (sAsg α (gN i)) :=
  ps_weak (ps_set hN hi hx he hs hf) fun D σ H ⟨env, R, E, w, h, ok⟩ => ⟨env, R, _, _, w, h, fun t env1 v H1 k1 w1 => ok.nx _ _ _ (force_mp k1) (Kp.set hB) (wd_set w1), ok.ee⟩
def sPar2 (i j : Nat) (g : SA) : SS := fun E env => g env (fun as env1 => allV as fun ts => match ts with
  | [t, u] => force ((env1.set i t).set j u) E.nx
  | _ => False) E.ex
theorem d_par2 {i j : Nat} {x y : Str} {px py pt' : Pos} {kt k2 : Nat} {pt2 : Pos} {γ : SA} (hBi : B i = true) (hBj : B j = true) (hc : X.calm = true) (hN : X.N.Nodup) (hi : X.N[i]? = some x) (hj : X.N[j]? = some y) (hij : i ≠ j)
    (hx : X.env.scope.names.lookup x = some .local) (hy : X.env.scope.names.lookup y = some .local) (ha : PDA X W [a, b] γ)
    (hw : swappedStores [.Tuple [.Name x px, .Name y py] kt pt'] (.Tuple [a, b] k2 pt2) X.env = pure (some [x, y]) := by rfl)
    (hs : swapsWithSole [.Tuple [.Name x px, .Name y py] kt pt'] (.Tuple [a, b] k2 pt2) pos.line X.env = pure false := by rfl) :
    PDS X W B (.Assign [.Tuple [.Name x px, .Name y py] kt pt'] (.Tuple [a, b] k2 pt2) pos) (sPar2 i j γ) :=
  ps_weak (ps_par hc hN hi hj hij hx hy ha hw hs) fun D σ H ⟨env, R, E, w, h, ok⟩ => ⟨env, R, _, _, w, h, fun as env1 vs H1 k1 w1 => by
    obtain ⟨ts, k1, e2⟩ := allV_get (σ := σ) (X := X) k1
    rw [e2] at w1
    have hl := w1.lenL
    split at k1
    · rename_i t u
      match vs, hl with
      | [v, w'], _ =>
        refine ⟨v, w', rfl, ok.nx _ _ _ (force_mp k1) ((Kp.set hBi).trans (Kp.set hBj)) ?_⟩
        rw [RepL_cons, RepL_cons, RepL_nil, star_emp] at w1
        have w2 : Wd H1 (Rep X.K t v • EnvA X.K env1 σ • (Rep X.K u w' • R)) := w1.eq (by ac_rfl)
        have w3 := wd_set (i := i) w2
        exact wd_set (w3.eq (by ac_rfl))
    · exact k1.elim, ok.ee⟩
def sPar3 (i j l : Nat) (g : SA) : SS := fun E env => g env (fun as env1 => allV as fun ts => match ts with
  | [t, u, z] => force (((env1.set i t).set j u).set l z) E.nx
  | _ => False) E.ex
theorem d_par3 {i j l : Nat} {x y z : Str} {px py pz pt' : Pos} {kt k2 : Nat} {pt2 : Pos} {γ : SA} (hBi : B i = true) (hBj : B j = true) (hBl : B l = true) (hc : X.calm = true) (hN : X.N.Nodup) (hi : X.N[i]? = some x) (hj : X.N[j]? = some y) (hl : X.N[l]? = some z) (hij : i ≠ j) (hil : i ≠ l) (hjl : j ≠ l)
    {T : TS} (h0 : PS X st T) (hT : ∀ D σ H, tPar3 i j l (tA X.K W γ) D σ H → T D σ H) : PDS X W B st (sPar3 i j l γ) :=
  ps_weak h0 fun D σ H ⟨env, R, E, w, h, ok⟩ => hT D σ H ⟨env, R, _, _, w, h, fun as env1 vs H1 k1 w1 => by
    obtain ⟨ts, k1, e2⟩ := allV_get (σ := σ) (X := X) k1
    rw [e2] at w1
    have hl := w1.lenL
    split at k1
    · rename_i t u z
      match vs, hl with
      | [v, w', y'], _ =>
        refine ⟨v, w', y', rfl, ok.nx _ _ _ (force_mp k1) (((Kp.set hBi).trans (Kp.set hBj)).trans (Kp.set hBl)) ?_⟩
        rw [RepL_cons, RepL_cons, RepL_cons, RepL_nil, star_emp] at w1
        have w2 : Wd H1 (Rep X.K t v • EnvA X.K env1 σ • (Rep X.K u w' • Rep X.K z y' • R)) := w1.eq (by ac_rfl)
        have w3 := (wd_set (i := i) w2).eq (B := Rep X.K u w' • EnvA X.K (env1.set i t) (σ.set i (some v)) • (Rep X.K z y' • R)) (by ac_rfl)
        have w4 := (wd_set (i := j) w3).eq (B := Rep X.K z y' • EnvA X.K ((env1.set i t).set j u) ((σ.set i (some v)).set j (some w')) • R) (by ac_rfl)
        exact wd_set w4
    · exact k1.elim, ok.ee⟩
/-- x += e by values (flat) -/
def sAug (f : F2) (i : Nat) (α : SE) : SS := fun E env => asD (slot env i) fun x => α env (fun t env1 => f (.d x) t fun z => force (env1.set i z) E.nx) E.ex
theorem d_aug {op : Operator} {ti : TIp} {f : F2} {i : Nat} {x : Str} {pos' : Pos} (hB : B i = true) (hr : RB X.K f ti) (hN : X.N.Nodup) (hi : X.N[i]? = some x) (hx : Loc X.env.scope x) (he : PD X W a α) (ho : PIp X op ti)
    (hf : X.fn x = true ∨ X.env.scope.names.lookup x = some .local := by first | exact .inl rfl | exact .inr rfl | assumption) : PDS X W B (.AugAssign (.Name x pos') op a pos) (sAug f i α) :=
  ps_weak (ps_aug hN hi hx he ho hf) fun D σ H ⟨env, R, E, w, h, ok⟩ => by
    obtain ⟨d, e, h⟩ := asD_get h
    have hg : slot env i ≠ .gone := by rw [e]; intro z; cases z
    obtain ⟨v, hv, e2⟩ := wd_slot w (slot_get hg) hg
    rw [e] at e2
    have w2 : Wd H (EnvA X.K env σ • (Rep X.K (.d d) v • R)) := by
      rw [e2] at w ⊢
      exact (wd_dup (w.eq (star_assoc _ _ _))).eq (by ac_rfl)
    refine ⟨v, hv, env, _, _, _, w2, h, fun t env1 y H1 k1 w1 => ?_, ok.ee.more⟩
    exact hr (.d d) t v y H1 (EnvA X.K env1 σ • R) _ _ (w1.eq (by ac_rfl)) k1 fun z v' H2 k2 w3 => ok.nx _ _ _ (force_mp k2) (Kp.set hB) (wd_set w3)

/-! ### what is walked -/
structure Wk (K : PySem.W.Frag) (J : It) (ts : List T) (I : Nat → Asn) : Prop where
  go : ∀ i H A, i < ts.length → Wd H (I i • A) → J.go i H
  stop : ∀ H A, Wd H (I ts.length • A) → J.stop ts.length H
  yld : ∀ i H A x H' t, ts[i]? = some t → Wd H (I i • A) → J.yld i H x H' → Wd H' (Rep K t x • I (i + 1) • A)
abbrev SI := Nv → (List T → Nv → Prop) → XQ → Prop
def tI (K : PySem.W.Frag) (W : WX) (ι : SI) : TI := fun σ H R => ∃ env Rf k e, Wd H (EnvA K env σ • Rf) ∧ ι env k e ∧ (∀ ts env' J I H', k ts env' → Wk K J ts I → Wd H' (I 0 • EnvA K env' σ • Rf) → R J H') ∧ ErE K W σ Rf e
def PDI (X : Cx) (W : WX) (tg iter : Expr) (ι : SI) : Prop := PI X tg iter (tI X.K W ι)
theorem pi_weak {X : Cx} {tg e : Expr} {t t' : TI} (h : PI X tg e t) (f : ∀ σ H Q, t' σ H Q → t σ H Q) : PI X tg e t' := ⟨fun pins s σ H Q I q => h.run pins s σ H Q I (f _ _ _ q)⟩
def forL (g : STG) (δ : SS) (E : EndT) : List T → Nv → Prop
  | [], env => E.nx env
  | t :: ts, env => g t env fun env' => δ ⟨forL g δ E ts, E.rt, E.nx, forL g δ E ts, E.ex⟩ env'
/-- the same, shut: nothing goes into a loop by itself -/
@[irreducible] def forK (g : STG) (δ : SS) (E : EndT) (ts : List T) (env : Nv) : Prop := forL g δ E ts env
theorem forK_eq {g : STG} {δ : SS} {E : EndT} {ts : List T} {env : Nv} : forK g δ E ts env = forL g δ E ts env := by unfold forK; rfl
def sFor (ι : SI) (g : STG) (δ : SS) : SS := fun E env => ι env (fun ts env' => forK g δ E ts env') E.ex
variable {ι : SI}
theorem d_for (hp : PassesOwn (model X.prog X.w) X.A X.env X.xe) (hc : X.calm = true) (hi : PDI X W tg iter ι) (hg : PDG X B tg g) (hb : PDSs X W B body δ)
    (hs : ∀ x, foldedSetIterable iter X.env x = pure x := by intro _; rfl) : PDS X W B (.For tg iter body [] pos) (sFor ι g δ) :=
  ps_weak (ps_for hp hc hi hg hb hs) fun D σ H ⟨env, R, E, w, h, ok⟩ => ⟨env, R, _, _, w, h, fun ts env1 J I H1 k0 wk w1 => by
    have k1 := forK_eq.mp k0
    refine ⟨fun i m σ' H' => m = ts.length - i ∧ i ≤ ts.length ∧ ∃ env', Wd H' (I i • EnvA X.K env' σ' • R) ∧ Kp B σ σ' ∧ forL g δ E (ts.drop i) env', ⟨ts.length, by simp, Nat.zero_le _, env1, w1, Kp.refl, by simpa using k1⟩, ?_⟩
    rintro i m σ' H' ⟨rfl, hi, env', w', kp, q⟩
    by_cases hlt : i < ts.length
    · refine .inr ⟨wk.go i H' _ hlt w', fun σ2 H2 => ∃ env2, Wd H2 (I (i + 1) • EnvA X.K env2 σ2 • R) ∧ Kp B σ σ2 ∧ forL g δ E (ts.drop (i + 1)) env2, fun σ2 H2 ⟨env2, w2, kp2, q2⟩ => ⟨ts.length - (i + 1), by omega, rfl, hlt, env2, w2, kp2, q2⟩, fun x H2 y => ?_⟩
      have ed : ts.drop i = ts[i] :: ts.drop (i + 1) := List.drop_eq_getElem_cons hlt
      rw [ed] at q
      have w2 := wk.yld i H' _ x H2 ts[i] (List.getElem?_eq_getElem hlt) w' y
      refine ⟨ts[i], env', I (i + 1) • R, _, w2.eq (by ac_rfl), q, fun env2 σ2 H3 q2 kp2 w3 => ?_⟩
      refine ⟨env2, I (i + 1) • R, _, w3, q2, ⟨fun env3 σ3 H4 q3 kp3 w4 => ⟨env3, w4.eq (by ac_rfl), (kp.trans kp2).trans kp3, q3⟩, ?_, ?_, fun env3 σ3 H4 q3 kp3 w4 => ⟨env3, w4.eq (by ac_rfl), (kp.trans kp2).trans kp3, q3⟩, ?_⟩⟩
      · exact ((ok.mid (kp.trans kp2)).more (A := I (i + 1))).rt
      · intro env3 σ3 H4 q3 kp3 w4
        exact ((ok.mid (kp.trans kp2)).more (A := I (i + 1))).nx env3 σ3 H4 q3 kp3 w4
      · exact ((ok.mid (kp.trans kp2)).more (A := I (i + 1))).er
    · have e : i = ts.length := by omega
      subst e
      refine .inl ⟨wk.stop H' _ w', ?_⟩
      rw [List.drop_length] at q
      exact ok.nx env' σ' H' q kp w'.drop, ok.ee⟩
def sWhile (p : SB) (δ : SS) : SS := fun E env => ∃ (Wt : Nat → Nv → Prop) (m : Nat), Wt m env ∧ ∀ m env, Wt m env → p env (fun b env1 => wh b (δ ⟨fun e2 => ∃ m', m' < m ∧ Wt m' e2, E.rt, E.nx, fun e2 => ∃ m', m' < m ∧ Wt m' e2, E.ex⟩ env1) (E.nx env1)) E.ex
theorem d_while (hp : PassesOwn (model X.prog X.w) X.A X.env X.xe) (hc : PDB X W c p) (hb : PDSs X W B body δ) : PDS X W B (.While c body [] pos) (sWhile p δ) :=
  ps_weak (ps_while hp hc hb) fun D σ H ⟨env, R, E, w, ⟨Wt, m, h0, h⟩, ok⟩ => by
    refine ⟨fun m σ' H' => ∃ env', Wd H' (EnvA X.K env' σ' • R) ∧ Kp B σ σ' ∧ Wt m env', ⟨m, env, w, Kp.refl, h0⟩, ?_⟩
    rintro m σ' H' ⟨env', w', kp, q⟩
    have ok' := ok.mid kp
    refine ⟨env', R, _, _, w', h m env' q, fun b env1 H1 k1 w1 => ?_, ok'.ee⟩
    cases b with
    | true =>
      rw [if_pos rfl]
      refine ⟨fun σ2 H2 => ∃ m', m' < m ∧ ∃ env2, Wd H2 (EnvA X.K env2 σ2 • R) ∧ Kp B σ σ2 ∧ Wt m' env2, fun σ2 H2 ⟨m', l, z⟩ => ⟨m', l, z⟩, env1, R, _, w1, k1, ⟨fun env3 σ3 H4 ⟨m', l, q3⟩ kp3 w4 => ⟨m', l, env3, w4, kp.trans kp3, q3⟩, ok'.rt, ok'.nx, fun env3 σ3 H4 ⟨m', l, q3⟩ kp3 w4 => ⟨m', l, env3, w4, kp.trans kp3, q3⟩, ok'.er⟩⟩
    | false =>
      rw [if_neg Bool.false_ne_true]
      exact ok'.nx _ _ _ k1 Kp.refl w1
end
end WC

/-! WLh: what is walked, comprehensions, defs and their calls. -/
namespace WC
open PySem PySem.Spec PyProof.Rows L2
/-- the items of a list -/
def itL (t : T) (k : List T → Prop) : Prop := match t with
  | .lst ts => k ts
  | .d (.lst ds) => k (ds.map .d)
  | _ => False
theorem wd_unseq {K : PySem.W.Frag} {H : Hp} {t : T} {v : V} {A : Asn} {k : List T → Prop} (h : itL t k) (w : Wd H (Rep K t v • A)) :
    ∃ (p : Addr) (ts : List T) (vs : List V) (Sp : Asn), v = .ref p ∧ k ts ∧ ts.length = vs.length ∧ (∀ H' A', Wd H' (Sp • A') → SqL K H' p vs) ∧ Wd H (Sp • RepL K ts vs • A) := by
  unfold itL at h
  split at h
  · obtain ⟨p, vs, e, w2⟩ := wd_unlst w
    exact ⟨p, _, vs, pt p (.lst vs), e, h, (w2.drop).lenL, fun H' A' w' => SqL.of w'.get, w2⟩
  · rename_i ds
    obtain ⟨G, h1, a, b, c, d, x, y, s, q, z⟩ := w
    rw [kn_den] at q
    obtain ⟨rfl, q⟩ := q
    simp only [Den] at q
    obtain ⟨p, vs, e, hT, hL⟩ := q
    refine ⟨p, ds.map .d, vs, kn fun G => SqL K G p vs, e, h, by rw [List.length_map]; exact DenL_len hL, fun H' A' w' => w'.knL, G, h1, a, b, c, d, Hp0, h1, spl_empty _, ⟨rfl, fun G1 s1 => Same.seq s1 hT⟩, Hp0, y, s, RepL_d.mpr ⟨rfl, hL⟩, z⟩
  · exact h.elim
theorem RepL_drop {K : PySem.W.Frag} {ts : List T} {vs : List V} {i : Nat} {t : T} {v : V} (h1 : ts[i]? = some t) (h2 : vs[i]? = some v) : RepL K (ts.drop i) (vs.drop i) = Rep K t v • RepL K (ts.drop (i + 1)) (vs.drop (i + 1)) := by
  obtain ⟨l1, e1⟩ := List.getElem?_eq_some_iff.mp h1
  obtain ⟨l2, e2⟩ := List.getElem?_eq_some_iff.mp h2
  rw [List.drop_eq_getElem_cons l1, List.drop_eq_getElem_cons l2, RepL_cons, e1, e2]
section
variable {K : PySem.W.Frag}
theorem wk_list {p : Addr} {ts : List T} {vs : List V} {Sp : Asn} (hl : ts.length = vs.length) (hs : ∀ H' A', Wd H' (Sp • A') → SqL K H' p vs) : Wk K (Itl K p) ts fun i => Sp • RepL K (ts.drop i) (vs.drop i) where
  go := fun i H A hi w => walk_list.goes i H (by omega) (hs H _ (w.eq (star_assoc _ _ _)))
  stop := fun H A w => by
    have h := walk_list.stops H (hs H _ (w.eq (star_assoc _ _ _)))
    rw [hl]
    exact h
  yld := fun i H A x H' t ht w y => by
    have hi := (List.getElem?_eq_some_iff.mp ht).1
    obtain ⟨e, hx⟩ := walk_list.yields i H x H' (by omega) (hs H _ (w.eq (star_assoc _ _ _))) y
    subst e
    rw [RepL_drop ht hx] at w
    exact w.eq (by ac_rfl)
theorem wk_tup {p : Addr} {ts : List T} {vs : List V} {Sp : Asn} (hl : ts.length = vs.length) (hs : ∀ H' A', Wd H' (Sp • A') → SqT K H' p vs) : Wk K (Itt K p) ts fun i => Sp • RepL K (ts.drop i) (vs.drop i) where
  go := fun i H A hi w => walk_tup.goes i H (by omega) (hs H _ (w.eq (star_assoc _ _ _)))
  stop := fun H A w => by
    have h := walk_tup.stops H (hs H _ (w.eq (star_assoc _ _ _)))
    rw [hl]
    exact h
  yld := fun i H A x H' t ht w y => by
    have hi := (List.getElem?_eq_some_iff.mp ht).1
    obtain ⟨e, hx⟩ := walk_tup.yields i H x H' (by omega) (hs H _ (w.eq (star_assoc _ _ _))) y
    subst e
    rw [RepL_drop ht hx] at w
    exact w.eq (by ac_rfl)
/-- lo, lo + 1, .. -/
def rngT (lo : Int) (n : Nat) : List T := (List.range n).map fun i => .int (lo + (i : Nat))
theorem rngT_len (lo : Int) (n : Nat) : (rngT lo n).length = n := by simp [rngT]
theorem rngT_get {lo : Int} {n i : Nat} {t : T} (h : (rngT lo n)[i]? = some t) : i < n ∧ t = .int (lo + (i : Nat)) := by
  unfold rngT at h
  rw [List.getElem?_map] at h
  by_cases hi : i < n
  · rw [List.getElem?_range hi] at h
    simp only [Option.map_some, Option.some.injEq] at h
    exact ⟨hi, h.symm⟩
  · rw [List.getElem?_eq_none (by simp; omega)] at h
    cases h
theorem wk_range {lo : Int} {n : Nat} : Wk K (Itr lo n) (rngT lo n) fun _ => emp where
  go := fun i H A hi w => by rw [rngT_len] at hi; exact hi
  stop := fun H A w => by rw [rngT_len]; exact Nat.le_refl n
  yld := fun i H A x H' t ht w y => by
    obtain ⟨hi, rfl⟩ := rngT_get ht
    obtain ⟨e, hx⟩ := walk_range.yields i H x H' hi trivial y
    subst e
    subst hx
    exact wd_ofl w
/-- (0, t), (1, u), .. -/
def enumT (ts : List T) : List T := ts.zipIdx.map fun x => mkTup [.int (x.2 : Nat), x.1]
theorem enumT_len (ts : List T) : (enumT ts).length = ts.length := by simp [enumT]
theorem enumT_get {ts : List T} {i : Nat} {t : T} (h : (enumT ts)[i]? = some t) : ∃ u, ts[i]? = some u ∧ t = mkTup [.int (i : Nat), u] := by
  unfold enumT at h
  rw [List.getElem?_map, List.getElem?_zipIdx] at h
  cases e : ts[i]? with
  | none => rw [e] at h; cases h
  | some u =>
    rw [e] at h
    simp only [Option.map_some, Option.some.injEq, Nat.zero_add] at h
    exact ⟨u, rfl, h.symm⟩
theorem wk_enum {p : Addr} {ts : List T} {vs : List V} {Sp : Asn} (hl : ts.length = vs.length) (hs : ∀ H' A', Wd H' (Sp • A') → SqL K H' p vs) : Wk K (Ite K p) (enumT ts) fun i => Sp • RepL K (ts.drop i) (vs.drop i) where
  go := fun i H A hi w => walk_enum.goes i H (by rw [enumT_len] at hi; omega) (hs H _ (w.eq (star_assoc _ _ _)))
  stop := fun H A w => by
    rw [enumT_len] at w ⊢
    have h := walk_enum.stops H (hs H _ (w.eq (star_assoc _ _ _)))
    rw [hl]
    exact h
  yld := fun i H A x H' t ht w y => by
    obtain ⟨u, hu, rfl⟩ := enumT_get ht
    have hi := (List.getElem?_eq_some_iff.mp hu).1
    obtain ⟨q, x1, x2, rfl, nq, rfl, e1, e2⟩ := walk_enum.yields i H x H' (by omega) (hs H _ (w.eq (star_assoc _ _ _))) y
    cases e1
    rw [RepL_drop hu e2] at w
    have w2 := wd_newTup (K := K) (vs := [.int (i : Nat), x2]) w nq
    refine wd_mkTup (K := K) (vs := [.int (i : Nat), x2]) ?_
    rw [RepL_cons, RepL_cons, RepL_nil, star_emp]
    have w3 : Wd (upd H q (.tup [.int (i : Nat), x2])) (Rep K u x2 • (kn (fun G => TupA K G q [.int (i : Nat), x2]) • (Sp • RepL K (ts.drop (i + 1)) (vs.drop (i + 1))) • A)) := w2.eq (by ac_rfl)
    exact (wd_ofl (x := .int (i : Nat)) w3).eq (by ac_rfl)
/-- the signs of a text -/
def strT (z : Str) : List T := z.cps.toList.map fun c => .str ⟨#[c]⟩
theorem wk_str {z : Str} : Wk K (Its z) (strT z) fun _ => emp where
  go := fun i H A hi w => by
    have h : i < z.cps.size := by simpa [strT] using hi
    exact h
  stop := fun H A w => by
    show z.cps.size ≤ (strT z).length
    simp [strT]
  yld := fun i H A x H' t ht w y => by
    unfold strT at ht
    rw [List.getElem?_map] at ht
    cases e : z.cps.toList[i]? with
    | none => rw [e] at ht; cases ht
    | some c =>
      rw [e] at ht
      simp only [Option.map_some, Option.some.injEq] at ht
      obtain ⟨e2, c', hc, rfl⟩ := walk_str.yields i H x H' (by
        have := (List.getElem?_eq_some_iff.mp e).1
        simpa using this) trivial y
      subst e2
      have : c' = c := by
        have h2 : z.cps.toList[i]? = some c' := by simpa using hc
        rw [e] at h2
        exact (Option.some.inj h2).symm
      subst this
      subst ht
      exact wd_ofl w
/-- pairs of two lists -/
def zipT (ts us : List T) : List T := (ts.zip us).map fun x => mkTup [x.1, x.2]
theorem wk_zip {p q : Addr} {ts us : List T} {vs ws : List V} {Sp Sq : Asn} (hl : ts.length = vs.length) (hl2 : us.length = ws.length) (hs : ∀ H' A', Wd H' (Sp • A') → SqL K H' p vs) (hs2 : ∀ H' A', Wd H' (Sq • A') → SqL K H' q ws) :
    Wk K (Itz K p q) (zipT ts us) fun i => Sp • Sq • RepL K (ts.drop i) (vs.drop i) • RepL K (us.drop i) (ws.drop i) where
  go := fun i H A hi w => by
    have hi : i < min ts.length us.length := by simpa [zipT] using hi
    exact (walk_zip (n := min vs.length ws.length) rfl).goes i H (by omega) ⟨hs H _ (w.eq (star_assoc _ _ _)), hs2 H _ (w.eq (B := Sq • (Sp • RepL K (ts.drop i) (vs.drop i) • RepL K (us.drop i) (ws.drop i)) • A) (by ac_rfl))⟩
  stop := fun H A w => by
    have e : (zipT ts us).length = min vs.length ws.length := by simp [zipT, hl, hl2]
    rw [e] at w ⊢
    exact (walk_zip (n := min vs.length ws.length) rfl).stops H ⟨hs H _ (w.eq (star_assoc _ _ _)), hs2 H _ (w.eq (B := Sq • (Sp • RepL K (ts.drop _) (vs.drop _) • RepL K (us.drop _) (ws.drop _)) • A) (by ac_rfl))⟩
  yld := fun i H A x H' t ht w y => by
    unfold zipT at ht
    rw [List.getElem?_map] at ht
    cases e : (ts.zip us)[i]? with
    | none => rw [e] at ht; cases ht
    | some tu =>
      rw [e] at ht
      simp only [Option.map_some, Option.some.injEq] at ht
      rw [List.getElem?_zip_eq_some] at e
      obtain ⟨e1, e2⟩ := e
      have l1 := (List.getElem?_eq_some_iff.mp e1).1
      have l2 := (List.getElem?_eq_some_iff.mp e2).1
      obtain ⟨r, x1, x2, rfl, nr, rfl, f1, f2⟩ := (walk_zip (n := min vs.length ws.length) rfl).yields i H x H' (by omega) ⟨hs H _ (w.eq (star_assoc _ _ _)), hs2 H _ (w.eq (B := Sq • (Sp • RepL K (ts.drop i) (vs.drop i) • RepL K (us.drop i) (ws.drop i)) • A) (by ac_rfl))⟩ y
      rw [RepL_drop e1 f1, RepL_drop e2 f2] at w
      have w2 := wd_newTup (K := K) (vs := [x1, x2]) w nr
      subst ht
      refine wd_mkTup (K := K) (vs := [x1, x2]) ?_
      rw [RepL_cons, RepL_cons, RepL_nil, star_emp]
      exact w2.eq (by ac_rfl)
end
section
variable {X : Cx} {W : WX} {B : Nat → Bool} {a b c iter tg e0 : Expr} {es : List Expr} {α β : SE} {γ : SA} {p : SB} {g : STG} {ι : SI} {pos p1 : Pos}
def sIL (α : SE) : SI := fun env k e => α env (fun t env1 => itL t fun ts => k ts env1) e
theorem d_iL (h : PD X W a α) : PDI X W tg a (sIL α) := pi_weak (pi_list h) fun σ H R ⟨env, Rf, k, e, w, q, ok, er⟩ => ⟨env, Rf, _, e, w, q, fun t env1 v H1 k1 w1 => by
  obtain ⟨p, ts, vs, Sp, rfl, k2, hl, hs, w2⟩ := wd_unseq k1 w1
  exact ⟨p, rfl, ⟨vs, hs H1 _ w2⟩, ok ts env1 _ _ H1 k2 (wk_list hl hs) (w2.eq (by simp only [List.drop_zero]; ac_rfl))⟩, er⟩
theorem wd_untupS {K : PySem.W.Frag} {H : Hp} {t : T} {v : V} {A : Asn} {k : List T → Prop} (h : asU t k) (w : Wd H (Rep K t v • A)) :
    ∃ (p : Addr) (ts : List T) (vs : List V) (Sp : Asn), v = .ref p ∧ k ts ∧ ts.length = vs.length ∧ (∀ H' A', Wd H' (Sp • A') → SqT K H' p vs) ∧ Wd H (Sp • RepL K ts vs • A) := by
  unfold asU at h
  split at h
  · rename_i ds
    obtain ⟨G, h1, a, b, c, d, x, y, s, q, z⟩ := w
    rw [kn_den] at q
    obtain ⟨rfl, q⟩ := q
    simp only [Den] at q
    obtain ⟨p, vs, e, hT, hL⟩ := q
    exact ⟨p, ds.map .d, vs, kn fun G => TupA K G p vs, e, h, by rw [List.length_map]; exact DenL_len hL, fun H' A' w' => w'.knL.sq, G, h1, a, b, c, d, Hp0, h1, spl_empty _, ⟨rfl, fun G1 s1 => hT.same s1⟩, Hp0, y, s, RepL_d.mpr ⟨rfl, hL⟩, z⟩
  · rename_i ts
    simp only [Rep] at w
    obtain ⟨p, w⟩ := w.exL
    obtain ⟨vs, w⟩ := w.exL
    have w2 : Wd H (pu (v = .ref p) • (kn (fun G => TupA K G p vs) • (RepL K ts vs • A))) := w.eq (by ac_rfl)
    have w3 := w2.puL.2
    exact ⟨p, ts, vs, kn fun G => TupA K G p vs, w2.puL.1, h, w3.knD.lenL, fun H' A' w' => w'.knL.sq, w3⟩
  · exact h.elim
def sIU (α : SE) : SI := fun env k e => α env (fun t env1 => asU t fun ts => k ts env1) e
theorem d_iU (h : PD X W a α) : PDI X W tg a (sIU α) := pi_weak (pi_tup h) fun σ H R ⟨env, Rf, k, e, w, q, ok, er⟩ => ⟨env, Rf, _, e, w, q, fun t env1 v H1 k1 w1 => by
  obtain ⟨p, ts, vs, Sp, rfl, k2, hl, hs, w2⟩ := wd_untupS k1 w1
  exact ⟨p, rfl, ⟨vs, hs H1 _ w2⟩, ok ts env1 _ _ H1 k2 (wk_tup hl hs) (w2.eq (by simp only [List.drop_zero]; ac_rfl))⟩, er⟩
def inR (i : Int) : Prop := -(2 ^ 62) ≤ i ∧ i < 2 ^ 62
def sIR1 (γ : SA) : SI := fun env k e => γ env (fun as env1 => allV as fun ts => match ts with
  | [t] => asI t fun n => inR n ∧ k (rngT 0 n.toNat) env1
  | _ => False) e
theorem d_iR1 (hg : Gl X "range") (hm : X.mg "range" = none) (ha : PDA X W [a] γ) (hs : starEach [a] X.env = [(false, eval a X.env)] := by rfl) : PDI X W tg (.Call (.Name "range" p1) [a] [] pos) (sIR1 γ) :=
  pi_weak (pi_range1 hg hm ha hs) fun σ H R ⟨env, Rf, k, e, w, q, ok, er⟩ => ⟨env, Rf, _, e, w, q, fun as env1 vs H1 k1 w1 => by
    obtain ⟨ts, k1, e2⟩ := allV_get (σ := σ) (X := X) k1
    rw [e2] at w1
    have hl := w1.lenL
    split at k1
    · rename_i t
      match vs, hl with
      | [v], _ =>
        obtain ⟨n, rfl, k2⟩ := asI_get k1
        rw [RepL_cons, RepL_nil, star_emp] at w1
        obtain rfl := wd_fl w1
        refine ⟨n, rfl, k2.1.1, k2.1.2, ok _ env1 _ _ H1 k2.2 wk_range ?_⟩
        rw [emp_star]
        exact w1.drop
    · exact k1.elim, er⟩
def sIR2 (γ : SA) : SI := fun env k e => γ env (fun as env1 => allV as fun ts => match ts with
  | [t, u] => asI t fun i => asI u fun j => inR i ∧ inR j ∧ k (rngT i (j - i).toNat) env1
  | _ => False) e
theorem d_iR2 (hg : Gl X "range") (hm : X.mg "range" = none) (ha : PDA X W [a, b] γ) (hs : starEach [a, b] X.env = [(false, eval a X.env), (false, eval b X.env)] := by rfl) (hs2 : starEach [b] X.env = [(false, eval b X.env)] := by rfl) :
    PDI X W tg (.Call (.Name "range" p1) [a, b] [] pos) (sIR2 γ) :=
  pi_weak (pi_range2 hg hm ha hs hs2) fun σ H R ⟨env, Rf, k, e, w, q, ok, er⟩ => ⟨env, Rf, _, e, w, q, fun as env1 vs H1 k1 w1 => by
    obtain ⟨ts, k1, e2⟩ := allV_get (σ := σ) (X := X) k1
    rw [e2] at w1
    have hl := w1.lenL
    split at k1
    · rename_i t u
      match vs, hl with
      | [v, v2], _ =>
        obtain ⟨i, rfl, k2⟩ := asI_get k1
        obtain ⟨j, rfl, k3⟩ := asI_get k2
        rw [RepL_cons, RepL_cons, RepL_nil, star_emp] at w1
        have w2 := w1.eq (star_assoc _ _ _)
        obtain rfl := wd_fl w2
        obtain rfl := wd_fl w2.drop
        refine ⟨i, j, rfl, ⟨k3.1.1, k3.1.2, k3.2.1.1, k3.2.1.2⟩, ok _ env1 _ _ H1 k3.2.2 wk_range ?_⟩
        rw [emp_star]
        exact w2.drop.drop
    · exact k1.elim, er⟩
def sIE (γ : SA) : SI := fun env k e => γ env (fun as env1 => allV as fun ts => match ts with
  | [t] => itL t fun us => k (enumT us) env1
  | _ => False) e
theorem d_iE {elts : List Expr} {kk : Nat} {tpos : Pos} (hg : Gl X "enumerate") (hm : X.mg "enumerate" = none) (ha : PDA X W [a] γ) (hs : starEach [a] X.env = [(false, eval a X.env)] := by rfl) : PDI X W (.Tuple elts kk tpos) (.Call (.Name "enumerate" p1) [a] [] pos) (sIE γ) :=
  pi_weak (pi_enum hg hm ha hs) fun σ H R ⟨env, Rf, k, e, w, q, ok, er⟩ => ⟨env, Rf, _, e, w, q, fun as env1 vs H1 k1 w1 => by
    obtain ⟨ts, k1, e2⟩ := allV_get (σ := σ) (X := X) k1
    rw [e2] at w1
    have hl := w1.lenL
    split at k1
    · rename_i t
      match vs, hl with
      | [v], _ =>
        rw [RepL_cons, RepL_nil, star_emp] at w1
        obtain ⟨p, us, ws, Sp, rfl, k2, hl2, hs2, w2⟩ := wd_unseq k1 w1
        exact ⟨p, ws, rfl, hs2 H1 _ w2, ok _ env1 _ _ H1 k2 (wk_enum hl2 hs2) (w2.eq (by simp only [List.drop_zero]; ac_rfl))⟩
    · exact k1.elim, er⟩
def asS (t : T) (k : Str → Prop) : Prop := match t with
  | .d (.fl (.str z)) => k z
  | _ => False
theorem asS_get {t : T} {k : Str → Prop} (h : asS t k) : ∃ z, t = .str z ∧ k z := by
  unfold asS at h
  split at h
  · exact ⟨_, rfl, h⟩
  · exact h.elim
def sIS (α : SE) : SI := fun env k e => α env (fun t env1 => asS t fun z => k (strT z) env1) e
theorem d_iS (h : PD X W a α) : PDI X W tg a (sIS α) := pi_weak (pi_str h) fun σ H R ⟨env, Rf, k, e, w, q, ok, er⟩ => ⟨env, Rf, _, e, w, q, fun t env1 v H1 k1 w1 => by
  obtain ⟨z, rfl, k2⟩ := asS_get k1
  obtain rfl := wd_fl w1
  refine ⟨z, rfl, ok _ env1 _ _ H1 k2 wk_str ?_⟩
  rw [emp_star]
  exact w1.drop, er⟩
def sIZ (γ : SA) : SI := fun env k e => γ env (fun as env1 => allV as fun ts => match ts with
  | [t, u] => itL t fun xs => itL u fun ys => k (zipT xs ys) env1
  | _ => False) e
theorem d_iZ {elts : List Expr} {kk : Nat} {tpos : Pos} (hg : Gl X "zip") (hm : X.mg "zip" = none) (ha : PDA X W [a, b] γ) (hs : starEach [a, b] X.env = (false, eval a X.env) :: starEach [b] X.env := by rfl) (hpl : (backTo pos (starEach [b] X.env)).any (·.1) = false := by rfl) :
    PDI X W (.Tuple elts kk tpos) (.Call (.Name "zip" p1) [a, b] [] pos) (sIZ γ) :=
  pi_weak (pi_zip hg hm ha hs hpl) fun σ H R ⟨env, Rf, k, e, w, q, ok, er⟩ => ⟨env, Rf, _, e, w, q, fun as env1 vs H1 k1 w1 => by
    obtain ⟨ts, k1, e2⟩ := allV_get (σ := σ) (X := X) k1
    rw [e2] at w1
    have hl := w1.lenL
    split at k1
    · rename_i t u
      match vs, hl with
      | [v, v2], _ =>
        rw [RepL_cons, RepL_cons, RepL_nil, star_emp] at w1
        have w1 := w1.eq (star_assoc _ _ _)
        obtain ⟨p, us, ws, Sp, rfl, k2, hl2, hs2, w2⟩ := wd_unseq k1 w1
        have w3 : Wd H1 (Rep X.K u v2 • (Sp • RepL X.K us ws • EnvA X.K env1 σ • Rf)) := w2.eq (by ac_rfl)
        obtain ⟨p', us', ws', Sp', rfl, k4, hl4, hs4, w4⟩ := wd_unseq k2 w3
        exact ⟨p, p', ws, ws', rfl, hs2 H1 _ (w4.eq (B := Sp • (Sp' • RepL X.K us' ws' • RepL X.K us ws • EnvA X.K env1 σ • Rf)) (by ac_rfl)), hs4 H1 _ w4, ok _ env1 _ _ H1 k4 (wk_zip hl2 hl4 hs2 hs4) (w4.eq (by simp only [List.drop_zero]; ac_rfl))⟩
    · exact k1.elim, er⟩
end
end WC

/-! WLi: comprehensions, defs and their calls. -/
namespace WC
open PySem PySem.Spec PyProof.Rows L2
def wipeT (env : Nv) : List Nat → Nv
  | [] => env
  | v :: vs => (wipeT env vs).set v .gone
def restT (env : Nv) : List Nat → Nv → Nv
  | [], e2 => e2
  | v :: vs, e2 => restT env vs (e2.set v (slot (wipeT env vs) v))
def savedA (K : PySem.W.Frag) (σ : L2.St) (env : Nv) : List Nat → Asn
  | [] => emp
  | v :: vs => (match (wipe σ vs)[v]? with
    | some x => SlotA K (slot (wipeT env vs) v) x
    | none => emp) • savedA K σ env vs
section
variable {K : PySem.W.Frag}
theorem EnvA_any : ∀ {env : Nv} {σ : L2.St} {i : Nat} {x : Option V}, EnvA K (env.set i .gone) (σ.set i x) = EnvA K (env.set i .gone) σ
  | [], [], _, _ => rfl
  | [], _ :: _, 0, _ => rfl
  | [], _ :: _, _ + 1, _ => rfl
  | _ :: _, [], 0, _ => rfl
  | _ :: _, [], _ + 1, _ => rfl
  | u :: env, y :: σ, 0, x => by
    show SlotA K .gone x • EnvA K env σ = SlotA K .gone y • EnvA K env σ
    rw [SlotA_gone, SlotA_gone]
  | u :: env, y :: σ, i + 1, x => by
    show SlotA K u y • EnvA K (env.set i .gone) (σ.set i x) = SlotA K u y • EnvA K (env.set i .gone) σ
    rw [EnvA_any]
theorem slot_lt {env : Nv} {i : Nat} (h : i < env.length) : env[i]? = some (slot env i) := by
  have e := List.getElem?_eq_getElem h
  rw [e, slot_eq e]
theorem slot_ge : ∀ {env : Nv} {i : Nat}, env.length ≤ i → slot env i = .gone
  | [], _, _ => rfl
  | _ :: _, 0, h => by simp at h
  | _ :: r, n + 1, h => slot_ge (env := r) (by simpa using h)
theorem shuf1 {S E A R : Asn} : (S • E) • A • R = E • (S • A) • R := by ac_rfl
theorem shuf2 {S E A R : Asn} : E • (S • A) • R = E • (S • A • R) := by ac_rfl
theorem wd_save {H : Hp} {σ : L2.St} {env : Nv} {R : Asn} : ∀ {vs : List Nat}, Wd H (EnvA K env σ • R) → Wd H (EnvA K (wipeT env vs) (wipe σ vs) • savedA K σ env vs • R)
  | [], w => by
    show Wd H (EnvA K env σ • emp • R)
    rw [emp_star]
    exact w
  | v :: vs, w => by
    have w1 := wd_save (vs := vs) w
    have hl := w1.len
    show Wd H (EnvA K ((wipeT env vs).set v .gone) ((wipe σ vs).set v none) • ((match (wipe σ vs)[v]? with
    | some x => SlotA K (slot (wipeT env vs) v) x
    | none => emp) • savedA K σ env vs) • R)
    rw [EnvA_any]
    by_cases hv : v < (wipe σ vs).length
    · obtain ⟨x, hx⟩ : ∃ x, (wipe σ vs)[v]? = some x := ⟨_, List.getElem?_eq_getElem hv⟩
      rw [hx]
      dsimp only
      have e : EnvA K (wipeT env vs) (wipe σ vs) = SlotA K (slot (wipeT env vs) v) x • EnvA K ((wipeT env vs).set v .gone) (wipe σ vs) := EnvA_take (slot_lt (by omega)) hx
      rw [e] at w1
      exact w1.eq shuf1
    · rw [List.getElem?_eq_none (by omega), List.set_eq_of_length_le (by omega)]
      show Wd H (EnvA K (wipeT env vs) (wipe σ vs) • (emp • savedA K σ env vs) • R)
      rw [emp_star]
      exact w1
theorem wd_rest {H : Hp} {σ : L2.St} {env : Nv} {R : Asn} : ∀ {vs : List Nat} {e2 : Nv}, Wd H (EnvA K e2 (wipe σ vs) • savedA K σ env vs • R) → Wd H (EnvA K (restT env vs e2) σ • R)
  | [], e2, w => by
    have w : Wd H (EnvA K e2 σ • emp • R) := w
    rw [emp_star] at w
    exact w
  | v :: vs, e2, w => by
    have w : Wd H (EnvA K e2 ((wipe σ vs).set v none) • ((match (wipe σ vs)[v]? with
    | some x => SlotA K (slot (wipeT env vs) v) x
    | none => emp) • savedA K σ env vs) • R) := w
    refine wd_rest (vs := vs) ?_
    have hl := w.len
    rw [List.length_set] at hl
    by_cases hv : v < (wipe σ vs).length
    · obtain ⟨x, hx⟩ : ∃ x, (wipe σ vs)[v]? = some x := ⟨_, List.getElem?_eq_getElem hv⟩
      rw [hx] at w
      dsimp only at w
      have w1 : Wd H (EnvA K e2 ((wipe σ vs).set v none) • (SlotA K (slot (wipeT env vs) v) x • savedA K σ env vs • R)) := w.eq shuf2
      have e : EnvA K e2 ((wipe σ vs).set v none) = SlotA K (slot e2 v) none • EnvA K (e2.set v .gone) ((wipe σ vs).set v none) := EnvA_take (slot_lt (by omega)) (by rw [List.getElem?_set_self hv])
      rw [e, EnvA_any] at w1
      have w2 := (w1.eq (star_assoc _ _ _)).drop
      have e3 : EnvA K (e2.set v (slot (wipeT env vs) v)) (wipe σ vs) = SlotA K (slot (wipeT env vs) v) x • EnvA K ((e2.set v (slot (wipeT env vs) v)).set v .gone) (wipe σ vs) := EnvA_take (by rw [List.getElem?_set_self (by omega)]) hx
      rw [e3, List.set_set]
      exact w2.eq (by ac_rfl)
    · rw [List.getElem?_eq_none (by omega), List.set_eq_of_length_le (by omega)] at w
      rw [List.set_eq_of_length_le (by omega)]
      have w1 : Wd H (EnvA K e2 (wipe σ vs) • (emp • savedA K σ env vs) • R) := w
      rw [emp_star] at w1
      exact w1
theorem wipe_get {σ : L2.St} : ∀ {vs : List Nat} {j : Nat}, j ∉ vs → (wipe σ vs)[j]? = σ[j]?
  | [], _, _ => rfl
  | v :: vs, j, h => by
    simp only [List.mem_cons, not_or] at h
    unfold wipe
    rw [List.getElem?_set_ne (fun e => h.1 e.symm), wipe_get h.2]
theorem wipe_at {σ : L2.St} : ∀ {vs : List Nat} {j : Nat}, j ∈ vs → j < σ.length → (wipe σ vs)[j]? = some none
  | v :: vs, j, h, hl => by
    unfold wipe
    by_cases e : v = j
    · subst e
      rw [List.getElem?_set_self (by rw [wipe_length]; exact hl)]
    · rw [List.getElem?_set_ne e]
      rcases List.mem_cons.mp h with z | z
      · exact absurd z.symm e
      · exact wipe_at z hl
theorem wipe_kp {σ σ2 : L2.St} {vs : List Nat} {B : Nat → Bool} (hB : ∀ j, B j = true → j ∈ vs) (h : Kp B (wipe σ vs) σ2) : wipe σ2 vs = wipe σ vs := by
  have hl : σ2.length = σ.length := by rw [h.1, wipe_length]
  apply List.ext_getElem?
  intro j
  by_cases hj : j ∈ vs
  · by_cases hlt : j < σ.length
    · rw [wipe_at hj (by omega), wipe_at hj hlt]
    · rw [List.getElem?_eq_none (by rw [wipe_length]; omega), List.getElem?_eq_none (by rw [wipe_length]; omega)]
  · rw [wipe_get hj]
    refine h.2 j ?_
    cases e : B j with
    | false => rfl
    | true => exact absurd (hB j e) hj
end
abbrev W0 : WX := fun _ _ _ _ => False
def lcL (vs : List Nat) (g : STG) (p : SB) (α : SE) (k : List T → Nv → Prop) : List T → List T → Nv → Prop
  | [], acc, env => k acc env
  | t :: ts, acc, env => g t env fun env1 => p env1 (fun b env2 => wh b (α env2 (fun y env3 => lcL vs g p α k ts (acc ++ [y]) (wipeT env3 vs)) (fun _ _ => False)) (lcL vs g p α k ts acc (wipeT env2 vs))) (fun _ _ => False)
@[irreducible] def lcK (vs : List Nat) (g : STG) (p : SB) (α : SE) (k : List T → Nv → Prop) (ts acc : List T) (env : Nv) : Prop := lcL vs g p α k ts acc env
theorem lcK_eq {vs : List Nat} {g : STG} {p : SB} {α : SE} {k : List T → Nv → Prop} {ts acc : List T} {env : Nv} : lcK vs g p α k ts acc env = lcL vs g p α k ts acc env := by unfold lcK; rfl
def sLc (vs : List Nat) (ι : SI) (g : STG) (p : SB) (α : SE) : SE := fun env k e => ι env (fun ts env1 => ts.length ≤ 1000000 ∧ lcK vs g p α (fun out env2 => force (restT env1 vs env2) (k (.lst out))) ts [] (wipeT env1 vs)) e
def sYes : SB := fun env k _ => k true env
def PDBs (X : Cx) (W : WX) (ifs : List Expr) (β : SB) : Prop := PTs X ifs (tT X.K W β)
section
variable {X : Cx} {W : WX} {B : Nat → Bool} {a b c elt iter tg e0 : Expr} {es ifs : List Expr} {α β : SE} {γ : SA} {p : SB} {g : STG} {ι : SI} {pos p1 : Pos}
theorem d_tnil : PDBs X W [] sYes := ⟨fun pins s σ H Q I ⟨env, R, k, e, w, q, ok, er⟩ => pts_nil.run pins s σ H Q I (ok true env H q w)⟩
theorem d_tone (h : PDB X W c p) : PDBs X W [c] p := pts_one h
theorem lc_of {vs : List Nat} {wB : Nat → Bool} (hB : ∀ j, wB j = true → j ∈ vs) {σ : L2.St} {H : Hp} {Q : VK} (h : tE X.K W (sLc vs ι g p α) σ H Q) : tLc (tI X.K W ι) (tG X.K wB g) (tT X.K W0 p) (tE X.K W0 α) vs σ H Q := by
  obtain ⟨env, R, k, e, w, q, ok, er⟩ := h
  refine ⟨env, R, _, e, w, q, fun ts env1 J I H1 ⟨hlen, k0⟩ wk w1 => fun D hD => ?_, er⟩
  have k1 := lcK_eq.mp k0
  have w2 : Wd H1 (EnvA X.K env1 σ • (I 0 • R)) := w1.eq (by ac_rfl)
  have w3 := (wd_save (vs := vs) w2).alloc (o := .lst []) hD fun xs z => by cases z
  refine ⟨fun i m H' => m = ts.length - i ∧ i ≤ ts.length ∧ ∃ env' acc ats, acc.length ≤ i ∧ Wd H' (I i • pt D (.lst acc) • RepL X.K ats acc • EnvA X.K env' (wipe σ vs) • savedA X.K σ env1 vs • R) ∧ lcL vs g p α (fun out env2 => force (restT env1 vs env2) (k (.lst out))) (ts.drop i) ats env',
    ⟨ts.length, by simp, Nat.zero_le _, wipeT env1 vs, [], [], Nat.le_refl _, ?_, by simpa using k1⟩, ?_⟩
  · rw [RepL_nil, emp_star]
    exact w3.eq (by ac_rfl)
  rintro i m H' ⟨rfl, hi, env', acc, ats, ha, w', q'⟩
  by_cases hlt : i < ts.length
  · refine .inr ⟨wk.go i H' _ hlt w', fun H2 => ∃ env2 acc2 ats2, acc2.length ≤ i + 1 ∧ Wd H2 (I (i + 1) • pt D (.lst acc2) • RepL X.K ats2 acc2 • EnvA X.K env2 (wipe σ vs) • savedA X.K σ env1 vs • R) ∧ lcL vs g p α (fun out env2 => force (restT env1 vs env2) (k (.lst out))) (ts.drop (i + 1)) ats2 env2,
      fun H2 ⟨env2, acc2, ats2, l2, w4, q2⟩ => ⟨ts.length - (i + 1), by omega, rfl, hlt, env2, acc2, ats2, l2, w4, q2⟩, fun x H2 y => ?_⟩
    have ed : ts.drop i = ts[i] :: ts.drop (i + 1) := List.drop_eq_getElem_cons hlt
    rw [ed] at q'
    have w4 := wk.yld i H' _ x H2 ts[i] (List.getElem?_eq_getElem hlt) w' y
    refine ⟨ts[i], env', I (i + 1) • pt D (.lst acc) • RepL X.K ats acc • savedA X.K σ env1 vs • R, _, w4.eq (by ac_rfl), q', fun env2 σ2 H3 q2 kp w5 => ⟨wipe_kp hB kp, ?_⟩⟩
    have ew := wipe_kp hB kp
    refine ⟨env2, _, _, _, w5, q2, fun b env3 H4 q3 w6 => ?_, ErE.no⟩
    cases b with
    | true =>
      rw [if_pos rfl]
      refine ⟨env3, _, _, _, w6, q3, fun ty env4 y' H5 q4 w7 => ?_, ErE.no⟩
      have w8 : Wd H5 (pt D (.lst acc) • (Rep X.K ty y' • EnvA X.K env4 σ2 • I (i + 1) • RepL X.K ats acc • savedA X.K σ env1 vs • R)) := w7.eq (by ac_rfl)
      have hal : ats.length = acc.length := (w8.eq (B := RepL X.K ats acc • (pt D (.lst acc) • Rep X.K ty y' • EnvA X.K env4 σ2 • I (i + 1) • savedA X.K σ env1 vs • R)) (by ac_rfl)).lenL
      refine ⟨acc, w8.get, ?_, wipeT env4 vs, acc ++ [y'], ats ++ [ty], by simp; omega, ?_, q4⟩
      · have := hlen
        exact Nat.lt_of_lt_of_le (show acc.length < 1000001 by omega) (by decide)
      · have w9 := w8.write (o' := .lst (acc ++ [y'])) fun xs z => by cases z
        have w10 : Wd (upd H5 D (.lst (acc ++ [y']))) (EnvA X.K env4 σ2 • (pt D (.lst (acc ++ [y'])) • Rep X.K ty y' • I (i + 1) • RepL X.K ats acc • savedA X.K σ env1 vs • R)) := w9.eq (by ac_rfl)
        have w11 := wd_save (vs := vs) w10
        rw [ew] at w11
        have w12 : Wd (upd H5 D (.lst (acc ++ [y']))) (savedA X.K σ2 env4 vs • (EnvA X.K (wipeT env4 vs) (wipe σ vs) • pt D (.lst (acc ++ [y'])) • Rep X.K ty y' • I (i + 1) • RepL X.K ats acc • savedA X.K σ env1 vs • R)) := w11.eq (by ac_rfl)
        rw [RepL_app hal, RepL_cons, RepL_nil, star_emp]
        exact w12.drop.eq (by ac_rfl)
    | false =>
      rw [if_neg Bool.false_ne_true]
      refine ⟨wipeT env3 vs, acc, ats, by omega, ?_, q3⟩
      have w11 := wd_save (vs := vs) w6
      rw [ew] at w11
      have w12 : Wd H4 (savedA X.K σ2 env3 vs • (EnvA X.K (wipeT env3 vs) (wipe σ vs) • I (i + 1) • pt D (.lst acc) • RepL X.K ats acc • savedA X.K σ env1 vs • R)) := w11.eq (by ac_rfl)
      exact w12.drop.eq (by ac_rfl)
  · have e : i = ts.length := by omega
    subst e
    refine .inl ⟨wk.stop H' _ w', ?_⟩
    rw [List.drop_length] at q'
    refine ok _ _ _ _ (force_mp q') ?_
    have w4 : Wd H' (I ts.length • (EnvA X.K env' (wipe σ vs) • savedA X.K σ env1 vs • (pt D (.lst acc) • RepL X.K ats acc • R))) := w'.eq (by ac_rfl)
    have w5 := wd_rest w4.drop
    exact wd_lst (w5.eq (by ac_rfl))
theorem d_lc {scope : Scope} {own : List (Str × Nat)} (wB : Nat → Bool) (hB : ∀ j, wB j = true → j ∈ own.map (·.2)) (hc : X.calm = true) (hN : X.N.Nodup) (hi : PDI X W tg iter ι) (hk : BlkOk X.N X.env.scope scope own)
    (hg : ∀ (s : Shared) (H : Hp) (C : Addr) (cl : List (Str × Addr)) (fp : List Addr), PDG (X.blk s H scope (compEnvC scope cl C X.env) fp) wB tg g) (ht : ∀ (s : Shared) (H : Hp) (C : Addr) (cl : List (Str × Addr)) (fp : List Addr), PDBs (X.blk s H scope (compEnvC scope cl C X.env) fp) W0 ifs p)
    (he : ∀ (s : Shared) (H : Hp) (C : Addr) (cl : List (Str × Addr)) (fp : List Addr), PD (X.blk s H scope (compEnvC scope cl C X.env) fp) W0 elt α) (hs : ∀ x, foldedSetIterable iter X.env x = pure x := by intro _; rfl) :
    PD X W (.ListComp elt [⟨tg, iter, ifs, 0⟩] scope pos) (sLc (own.map (·.2)) ι g p α) :=
  pe_weak (pe_lc (wi := tI X.K W ι) (g := tG X.K wB g) (tt := tT X.K W0 p) (te := tE X.K W0 α) hc hN hi hk hg ht he hs) fun _ _ _ h => lc_of hB h
theorem d_setLc {i : Nat} {y : Str} {py spos : Pos} {scope : Scope} {own : List (Str × Nat)} (wB : Nat → Bool) (hBi : B i = true) (hB : ∀ j, wB j = true → j ∈ own.map (·.2)) (hc : X.calm = true) (hN : X.N.Nodup) (hy : X.N[i]? = some y) (hyl : X.env.scope.names.lookup y = some .local)
    (hsw : swapsWith (.ListComp elt [⟨tg, iter, ifs, 0⟩] scope pos) (some (.Name y py)) spos.line X.env = pure true) (hi : PDI X W tg iter ι) (hk : BlkOk X.N X.env.scope scope own)
    (hg : ∀ (s : Shared) (H : Hp) (C : Addr) (cl : List (Str × Addr)) (fp : List Addr), PDG (X.blk s H scope (compEnvC scope cl C X.env) fp) wB tg g) (ht : ∀ (s : Shared) (H : Hp) (C : Addr) (cl : List (Str × Addr)) (fp : List Addr), PDBs (X.blk s H scope (compEnvC scope cl C X.env) fp) W0 ifs p)
    (he : ∀ (s : Shared) (H : Hp) (C : Addr) (cl : List (Str × Addr)) (fp : List Addr), PD (X.blk s H scope (compEnvC scope cl C X.env) fp) W0 elt α) (hs : ∀ x, foldedSetIterable iter X.env x = pure x := by intro _; rfl) :
    PDS X W B (.Assign [.Name y py] (.ListComp elt [⟨tg, iter, ifs, 0⟩] scope pos) spos) (sAsg (sLc (own.map (·.2)) ι g p α) (gN i)) :=
  ps_weak (ps_setLc (wi := tI X.K W ι) (g := tG X.K wB g) (tt := tT X.K W0 p) (te := tE X.K W0 α) hc hN hy hyl hsw hi hk hg ht he hs) fun D σ H ⟨env, R, E, w, h, ok⟩ => by
    have h1 : tE X.K W (sLc (own.map (·.2)) ι g p α) σ H (fun x H1 => gName i x σ H1 D.nx) := ⟨env, R, _, _, w, h, fun t env1 v H1 k1 w1 => ok.nx _ _ _ (force_mp k1) (Kp.set hBi) (wd_set w1), ok.ee⟩
    exact lc_of hB h1
/-! ### defs -/
abbrev FT := List T → (T → List T → Prop) → (Exn → List T → Prop) → Prop
/-- the promise of a def of n parameters by its worth over trees -/
def spT (K : PySem.W.Frag) (n : Nat) (φ : FT) : Sp := fun vs H Q E => vs.length = n ∧ ∃ ts R k e, Wd H (RepL K ts vs • R) ∧ φ ts k e ∧ (∀ t ts' v H', k t ts' → Wd H' (Rep K t v • RepL K ts' vs • R) → Q v H') ∧
  (∀ x ts' cls d H', e x ts' → Wd H' (ExnA K x cls d • RepL K ts' vs • R) → E cls d H')
/-- the arguments' objects behind a call -/
def backP (B : Nat → Bool) : Nat → List T → Nv → List T
  | _, [], _ => []
  | j, .d x :: ts, env => .d x :: backP B (j + 1) ts env.tail
  | j, _ :: ts, env => (if B j = true then .gone else slot env 0) :: backP B (j + 1) ts env.tail
def dupsT : List T → List T
  | [] => []
  | .d x :: ts => .d x :: dupsT ts
  | _ :: ts => .gone :: dupsT ts
theorem dups_star {K : PySem.W.Frag} : ∀ {ts : List T} {vs : List V}, RepL K ts vs = RepL K ts vs • RepL K (dupsT ts) vs
  | [], [] => by simp only [dupsT, RepL, emp_star]
  | [], _ :: _ => by
    simp only [dupsT, RepL]
    exact Asn.ext' fun G h => ⟨fun p => p.elim, fun ⟨_, _, _, p, _⟩ => p.elim⟩
  | t :: ts, [] => by
    have e : RepL K (t :: ts) ([] : List V) = fal := by simp only [RepL]
    rw [e]
    exact Asn.ext' fun G h => ⟨fun p => p.elim, fun ⟨_, _, _, p, _⟩ => p.elim⟩
  | t :: ts, v :: vs => by
    have ih := dups_star (K := K) (ts := ts) (vs := vs)
    have key : ∀ u : T, dupsT (t :: ts) = u :: dupsT ts → Rep K t v = Rep K t v • Rep K u v → RepL K (t :: ts) (v :: vs) = RepL K (t :: ts) (v :: vs) • RepL K (dupsT (t :: ts)) (v :: vs) := fun u e1 e2 => by
      rw [e1, RepL_cons, RepL_cons]
      have e3 : Rep K t v • RepL K ts vs = (Rep K t v • Rep K u v) • (RepL K ts vs • RepL K (dupsT ts) vs) := by rw [← e2, ← ih]
      have e4 : (Rep K t v • RepL K ts vs) • Rep K u v • RepL K (dupsT ts) vs = (Rep K t v • Rep K u v) • (RepL K ts vs • RepL K (dupsT ts) vs) := by ac_rfl
      rw [e4]
      exact e3
    have ge : Rep K .gone v = emp := by simp only [Rep]
    cases t with
    | d x => exact key (.d x) rfl Rep_dup
    | gone => exact key .gone rfl (by rw [ge, emp_star])
    | tup _ => exact key .gone rfl (by rw [ge, star_emp])
    | lst _ => exact key .gone rfl (by rw [ge, star_emp])
    | dK _ _ => exact key .gone rfl (by rw [ge, star_emp])
    | dT _ _ => exact key .gone rfl (by rw [ge, star_emp])
    | ins _ _ _ => exact key .gone rfl (by rw [ge, star_emp])
theorem wd_backP {K : PySem.W.Frag} {B : Nat → Bool} {H : Hp} {R : Asn} : ∀ {j : Nat} {ts : List T} {vs : List V} {env : Nv} {σ : L2.St}, ts.length = vs.length → (∀ i, i < ts.length → B (j + i) = false → σ[i]? = vs[i]?.map some) → Wd H (EnvA K env σ • RepL K (dupsT ts) vs • R) → Wd H (RepL K (backP B j ts env) vs • R)
  | j, [], [], env, σ, _, _, w => by
    simp only [backP, RepL, emp_star]
    exact w.drop.drop
  | _, [], _ :: _, _, _, h, _, _ => by simp at h
  | _, _ :: _, [], _, _, h, _, _ => by simp at h
  | j, t :: ts, v :: vs, env, σ, hl, hσ, w => by
    have hl2 : ts.length = vs.length := by simpa using hl
    -- the rest, with the first slot's part beside it
    have step : ∀ (u z : T), dupsT (t :: ts) = u :: dupsT ts → backP B j (t :: ts) env = z :: backP B (j + 1) ts env.tail → (∀ x : Option V, σ[0]? = some x → ∀ A, Wd H (SlotA K (slot env 0) x • Rep K u v • A) → Wd H (Rep K z v • A)) → (σ = [] → ∀ A, Wd H (Rep K u v • A) → Wd H (Rep K z v • A)) → Wd H (RepL K (backP B j (t :: ts) env) (v :: vs) • R) := fun u z e1 e2 f f0 => by
      rw [e2, RepL_cons]
      rw [e1, RepL_cons] at w
      have hle := w.len
      match env, σ, hle with
      | [], [], _ =>
        have w1 : Wd H (Rep K u v • (EnvA K [] [] • RepL K (dupsT ts) vs • R)) := w.eq (by ac_rfl)
        have w2 := f0 rfl _ w1
        have w3 : Wd H (EnvA K [] [] • RepL K (dupsT ts) vs • (Rep K z v • R)) := w2.eq (by ac_rfl)
        refine (wd_backP (j := j + 1) hl2 (fun i hi hb => ?_) w3).eq (by ac_rfl)
        have h2 := hσ (i + 1) (by simpa using hi) (by rw [show j + (i + 1) = j + 1 + i by omega]; exact hb)
        rw [List.getElem?_cons_succ] at h2
        rw [← h2]
        rfl
      | e0 :: env, x :: σ, _ =>
        have w1 : Wd H (SlotA K e0 x • Rep K u v • (EnvA K env σ • RepL K (dupsT ts) vs • R)) := by
          have w0 : Wd H ((SlotA K e0 x • EnvA K env σ) • (Rep K u v • RepL K (dupsT ts) vs) • R) := w
          exact w0.eq (by ac_rfl)
        have w2 := f x rfl _ w1
        have w3 : Wd H (EnvA K env σ • RepL K (dupsT ts) vs • (Rep K z v • R)) := w2.eq (by ac_rfl)
        refine (wd_backP (j := j + 1) hl2 (fun i hi hb => ?_) w3).eq (by ac_rfl)
        have h2 := hσ (i + 1) (by simpa using hi) (by rw [show j + (i + 1) = j + 1 + i by omega]; exact hb)
        rw [List.getElem?_cons_succ, List.getElem?_cons_succ] at h2
        exact h2
    have other : dupsT (t :: ts) = .gone :: dupsT ts → backP B j (t :: ts) env = (if B j = true then .gone else slot env 0) :: backP B (j + 1) ts env.tail → Wd H (RepL K (backP B j (t :: ts) env) (v :: vs) • R) := fun e1 e2 => by
      have ge : ∀ y, Rep K .gone y = emp := fun y => by simp only [Rep]
      refine step .gone _ e1 e2 (fun x hx A w1 => ?_) (fun h0 A w1 => ?_)
      · by_cases hb : B j = true
        · rw [if_pos hb, ge, emp_star]
          exact w1.drop.drop
        · rw [if_neg hb]
          have h2 := hσ 0 (by simp) (by simpa using hb)
          rw [hx] at h2
          simp only [List.getElem?_cons_zero, Option.map_some, Option.some.injEq] at h2
          subst h2
          rw [ge, emp_star] at w1
          exact w1
      · by_cases hb : B j = true
        · rw [if_pos hb, ge, emp_star]
          exact w1.drop
        · have h2 := hσ 0 (by simp) (by simpa using hb)
          rw [h0] at h2
          simp at h2
    cases t with
    | d y => exact step (.d y) (.d y) rfl rfl (fun x hx A w1 => w1.drop) (fun h0 A w1 => w1)
    | gone => exact other rfl rfl
    | tup _ => exact other rfl rfl
    | lst _ => exact other rfl rfl
    | dK _ _ => exact other rfl rfl
    | dT _ _ => exact other rfl rfl
    | ins _ _ _ => exact other rfl rfl
theorem wd_start {K : PySem.W.Frag} {H : Hp} {R : Asn} : ∀ {ts : List T} {vs : List V} {m : Nat}, ts.length = vs.length → EnvA K (ts ++ List.replicate m .gone) (vs.map some ++ List.replicate m none) = RepL K ts vs
  | [], [], 0, _ => by simp only [RepL]; rfl
  | [], [], m + 1, _ => by
    show SlotA K .gone none • EnvA K ([] ++ List.replicate m .gone) (([] : List V).map some ++ List.replicate m none) = _
    rw [SlotA_gone, emp_star, wd_start (R := R) (H := H) (ts := []) (vs := []) rfl]
  | [], _ :: _, _, h => by simp at h
  | _ :: _, [], _, h => by simp at h
  | t :: ts, v :: vs, m, h => by
    rw [RepL_cons]
    show Rep K t v • EnvA K (ts ++ List.replicate m .gone) (vs.map some ++ List.replicate m none) = _
    rw [wd_start (R := R) (H := H) (by simpa using h)]
/-- what is wanted at a def's ends, from what its caller wants -/
def endP (B : Nat → Bool) (ts : List T) (k : T → List T → Prop) (e : Exn → List T → Prop) : EndT :=
  ⟨fun env => k .non (backP B 0 ts env), fun t env => k t (backP B 0 ts env), fun _ => False, fun _ => False, fun x env => e x (backP B 0 ts env)⟩
theorem def_core {K : PySem.W.Frag} {N ps : List Str} {φ : FT} {vs : List V} {H : Hp} {Q : VK} {E : XK} (B : Nat → Bool) (δ : SS) (h : spT K ps.length φ vs H Q E)
    (hφ : ∀ ts k e, ts.length = ps.length → φ ts k e → δ (endP B ts k fun _ _ => False) (ts ++ List.replicate (N.length - ps.length) .gone)) : tS K W0 B δ { nx := fun _ H' => Q .non H', rt := Q } (L2.start N vs) H := by
  obtain ⟨hl, ts, R, k', e, w, q, ok, er⟩ := h
  have hl2 := w.lenL
  have q2 := hφ ts k' e (by omega) q
  rw [dups_star] at w
  have w2 : Wd H (EnvA K (ts ++ List.replicate (N.length - ps.length) .gone) (L2.start N vs) • (RepL K (dupsT ts) vs • R)) := by
    unfold L2.start
    rw [hl, wd_start (R := R) (H := H) hl2]
    exact w.eq (star_assoc _ _ _)
  have keep : ∀ {σ' : L2.St}, Kp B (L2.start N vs) σ' → ∀ i, i < ts.length → B (0 + i) = false → σ'[i]? = vs[i]?.map some := fun {σ'} kp i hi hb => by
    rw [kp.2 i (by simpa using hb)]
    unfold L2.start
    rw [List.getElem?_append_left (by simp; omega), List.getElem?_map]
  refine ⟨_, _, _, w2, q2, ⟨fun env σ' H' k1 kp w3 => ?_, fun t env σ' v H' k1 kp w3 => ?_, fun _ _ _ q _ _ => q.elim, fun _ _ _ q _ _ => q.elim, fun _ _ _ _ _ _ q _ _ => q.elim⟩⟩
  · have w4 := wd_backP (B := B) (j := 0) hl2 (keep kp) w3
    exact ok _ _ _ _ k1 (wd_ofl w4)
  · have w4 : Wd H' (EnvA K env σ' • RepL K (dupsT ts) vs • (Rep K t v • R)) := w3.eq (by ac_rfl)
    have w5 := wd_backP (B := B) (j := 0) hl2 (keep kp) w4
    exact ok _ _ _ _ k1 (w5.eq (by ac_rfl))
/-- A DEF that lets no exception out: its body's worth δ, its promise φ -/
theorem def_ok {P : Program} {w : World} {K : PySem.W.Frag} {mg : Str → Option Value} {base : Heap} {x qual : Str} {st : Stmt} {f : Addr} {fd : FuncData} {N ps : List Str} {k : Nat} {φ : FT} (B : Nat → Bool) (F : Fun K x qual st f fd) (S : FnScope N ps (defScope st)) (δ : SS)
    (hbody : ∀ (cdv : Value) (A : Around) (outer : List Env) (s : Shared) (H : Hp) (E : XK), Room k (A.deeper (envOfC qual (defScope st) s.heap.objs.size f cdv)) →
      PDSs (cxOf CX0 P w K mg base N qual (defScope st) f cdv A outer s H E).nox W0 B (defBody st) δ)
    (hφ : ∀ ts k e, ts.length = ps.length → φ ts k e → δ (endP B ts k fun _ _ => False) (ts ++ List.replicate (N.length - ps.length) .gone)) : FnOk P w K mg base CX0 (k + 1) f fd ps (spT K ps.length φ) :=
  F.ok S (fun vs H Q E h => h.1) fun cdv A outer s H vs Q E hr h => ⟨_, hbody cdv A outer s H E hr, def_core B δ h hφ⟩
end
end WC

/-! WLj: calls of defs; operators and built-ins by their worth. -/
namespace WC
open PySem PySem.Spec PyProof.Rows L2
def takeA : List Arg → Nv → (List T → Nv → Prop) → Prop
  | [], env, k => k [] env
  | .v t :: as, env, k => takeA as env fun ts env' => k (t :: ts) env'
  | .l i :: as, env, k => match slot env i with
    | .gone => False
    | t => takeA as (env.set i .gone) fun ts env' => k (t :: ts) env'
def giveA : List Arg → List T → Nv → Nv
  | .v _ :: as, _ :: ts, env => giveA as ts env
  | .l i :: as, t :: ts, env => (giveA as ts env).set i t
  | _, _, env => env
theorem slot_set_self : ∀ {env : Nv} {i : Nat} {t : T}, i < env.length → slot (env.set i t) i = t
  | [], _, _, h => by simp at h
  | _ :: _, 0, _, _ => rfl
  | _ :: r, n + 1, _, h => slot_set_self (env := r) (by simpa using h)
theorem slot_set_ne : ∀ {env : Nv} {i j : Nat} {t : T}, i ≠ j → slot (env.set i t) j = slot env j
  | [], _, _, _, _ => rfl
  | _ :: _, 0, 0, _, h => absurd rfl h
  | _ :: _, 0, _ + 1, _, _ => rfl
  | _ :: _, _ + 1, 0, _, _ => rfl
  | _ :: r, n + 1, m + 1, _, h => slot_set_ne (env := r) (fun e => h (by rw [e]))
theorem slot_set_gone {env : Nv} {i j : Nat} (h : slot env j = .gone) : slot (env.set i .gone) j = .gone := by
  by_cases e : i = j
  · subst e
    by_cases hl : i < env.length
    · exact slot_set_self hl
    · rw [List.set_eq_of_length_le (by omega)]
      exact h
  · rw [slot_set_ne e]
    exact h
theorem set_gone_id : ∀ {env : Nv} {i : Nat}, slot env i = .gone → env.set i .gone = env
  | [], _, _ => rfl
  | t :: r, 0, h => by
    have h : t = .gone := h
    rw [h]
    rfl
  | t :: r, n + 1, h => by
    rw [List.set_cons_succ, set_gone_id (env := r) h]
section
variable {K : PySem.W.Frag}
theorem take_of {σ : L2.St} : ∀ {as : List Arg} {env : Nv} {k : List T → Nv → Prop}, takeA as env k → ∃ ts env', k ts env' ∧ env'.length = env.length ∧ ts.length = as.length ∧ (∀ j, slot env j = .gone → slot env' j = .gone) ∧
    (∀ ts' j, slot env j = .gone → slot (giveA as ts' env') j = .gone) ∧ (∀ ts', (giveA as ts' env').length = env'.length) ∧ ∀ vs H R, Wd H (ArgA K σ as vs • EnvA K env σ • R) →
      Wd H (RepL K ts vs • EnvA K env' σ • R) ∧ ∀ ts' H' R', ts'.length = as.length → Wd H' (RepL K ts' vs • EnvA K env' σ • R') → Wd H' (EnvA K (giveA as ts' env') σ • R')
  | [], env, k, h => ⟨[], env, h, rfl, rfl, fun j q => q, fun ts' j q => q, fun _ => rfl, fun vs H R w => by
    cases vs with
    | nil =>
      rw [RepL_nil]
      refine ⟨w, fun ts' H' R' hl w' => ?_⟩
      have e : ts' = [] := List.length_eq_zero_iff.mp hl
      subst e
      rw [RepL_nil, emp_star] at w'
      exact w'
    | cons v vs =>
      obtain ⟨G, h, _, _, _, _, _, _, _, p, _⟩ := w
      exact p.elim⟩
  | .v t :: as, env, k, h => by
    obtain ⟨ts, env', hk, l1, l2, g1, g2, g3, f⟩ := take_of (σ := σ) (as := as) h
    refine ⟨t :: ts, env', hk, l1, by simp [l2], g1, fun ts' j q => ?_, fun ts' => ?_, fun vs H R w => ?_⟩
    · cases ts' with
      | nil => exact g1 j q
      | cons t' ts' => exact g2 ts' j q
    · cases ts' with
      | nil => rfl
      | cons t' ts' => exact g3 ts'
    · cases vs with
      | nil =>
        obtain ⟨G, h, _, _, _, _, _, _, _, p, _⟩ := w
        exact p.elim
      | cons v vs =>
        have w1 : Wd H (ArgA K σ as vs • EnvA K env σ • (Rep K t v • R)) := by
          have w0 : Wd H ((Rep K t v • ArgA K σ as vs) • EnvA K env σ • R) := w
          exact w0.eq (by ac_rfl)
        obtain ⟨w2, back⟩ := f vs H _ w1
        refine ⟨by rw [RepL_cons]; exact w2.eq (by ac_rfl), fun ts' H' R' hl w' => ?_⟩
        cases ts' with
        | nil => simp at hl
        | cons t' ts' =>
          rw [RepL_cons] at w'
          have w3 : Wd H' (RepL K ts' vs • EnvA K env' σ • (Rep K t' v • R')) := w'.eq (by ac_rfl)
          have w4 := back ts' H' _ (by simpa using hl) w3
          have w5 : Wd H' (Rep K t' v • (EnvA K (giveA as ts' env') σ • R')) := w4.eq (by ac_rfl)
          exact w5.drop
  | .l i :: as, env, k, h => by
    have hg : slot env i ≠ .gone := fun e => by
      unfold takeA at h
      rw [e] at h
      exact h
    have h2 : takeA as (env.set i .gone) fun ts env' => k (slot env i :: ts) env' := by
      unfold takeA at h
      split at h
      · rename_i e
        exact absurd e hg
      · exact h
    obtain ⟨ts, env', hk, l1, l2, g1, g2, g3, f⟩ := take_of (σ := σ) (as := as) h2
    have hi : i < env.length := (List.getElem?_eq_some_iff.mp (slot_get hg)).1
    have gi : slot (env.set i .gone) i = .gone := slot_set_self hi
    refine ⟨slot env i :: ts, env', hk, by rw [l1, List.length_set], by simp [l2], fun j q => g1 j (slot_set_gone q), fun ts' j q => ?_, fun ts' => ?_, fun vs H R w => ?_⟩
    · cases ts' with
      | nil => exact g1 j (slot_set_gone q)
      | cons t' ts' =>
        have ne : i ≠ j := fun e => by rw [e] at hg; exact hg q
        show slot ((giveA as ts' env').set i t') j = .gone
        rw [slot_set_ne ne]
        exact g2 ts' j (slot_set_gone q)
    · cases ts' with
      | nil => rfl
      | cons t' ts' =>
        show ((giveA as ts' env').set i t').length = _
        rw [List.length_set]
        exact g3 ts'
    · cases vs with
      | nil =>
        obtain ⟨G, h, _, _, _, _, _, _, _, p, _⟩ := w
        exact p.elim
      | cons v vs =>
        have w0 : Wd H ((pu (σ[i]? = some (some v)) • ArgA K σ as vs) • EnvA K env σ • R) := w
        have wp : Wd H (pu (σ[i]? = some (some v)) • (ArgA K σ as vs • EnvA K env σ • R)) := w0.eq (by ac_rfl)
        obtain ⟨hv, wq⟩ := wp.puL
        have wr : Wd H (EnvA K env σ • (ArgA K σ as vs • R)) := wq.eq (by ac_rfl)
        obtain ⟨v', hv', e2⟩ := wd_slot wr (slot_get hg) hg
        rw [hv] at hv'
        cases hv'
        rw [e2] at wr
        have w1 : Wd H (ArgA K σ as vs • EnvA K (env.set i .gone) σ • (Rep K (slot env i) v • R)) := wr.eq (by ac_rfl)
        obtain ⟨w2, back⟩ := f vs H _ w1
        refine ⟨by rw [RepL_cons]; exact w2.eq (by ac_rfl), fun ts' H' R' hl w' => ?_⟩
        cases ts' with
        | nil => simp at hl
        | cons t' ts' =>
          rw [RepL_cons] at w'
          have w3 : Wd H' (RepL K ts' vs • EnvA K env' σ • (Rep K t' v • R')) := w'.eq (by ac_rfl)
          have w4 := back ts' H' _ (by simpa using hl) w3
          show Wd H' (EnvA K ((giveA as ts' env').set i t') σ • R')
          rw [EnvA_back hv (by rw [g3, l1, List.length_set]; exact hi), set_gone_id (g2 ts' i gi)]
          exact w4.eq (by ac_rfl)
end
/-- f(..), of a def of this worth; dvs: the defaults behind the written arguments -/
def sCall (n : Nat) (φ : FT) (dvs : List V) (γ : SA) : SE := fun env k e => γ env (fun as env1 => takeA as env1 fun ts env2 => ifT (Nat.beq (ts.length + dvs.length) n) (φ (ts ++ dvs.map .fl) (fun t ts' => force (giveA as ts' env2) (k t)) (fun x ts' => force (giveA as ts' env2) (e x)))) e
theorem RepL_fl {K : PySem.W.Frag} : ∀ {vs : List V}, RepL K (vs.map T.fl) vs = emp
  | [] => RepL_nil
  | v :: vs => by
    rw [List.map_cons, RepL_cons, rep_fl, emp_star, RepL_fl]
section
variable {X : Cx} {W : WX} {B : Nat → Bool} {a b c : Expr} {es : List Expr} {γ : SA} {pos p1 : Pos} {x : Str} {k n : Nat} {f : Addr} {fd : FuncData} {ps : List Str} {φ : FT} {dvs : List V} {ds : List Value}
/-- giving back less or more than was taken changes the slots lent alone -/
theorem giveA_cut : ∀ {as : List Arg} {ts us : List T} {env : Nv}, ts.length = as.length → giveA as (ts ++ us) env = giveA as ts env
  | [], ts, us, env, h => by
    have e : ts = [] := List.length_eq_zero_iff.mp h
    subst e
    cases us <;> rfl
  | .v _ :: as, [], _, _, h => by simp at h
  | .l _ :: as, [], _, _, h => by simp at h
  | .v _ :: as, t :: ts, us, env, h => by
    show giveA as (ts ++ us) env = giveA as ts env
    exact giveA_cut (by simpa using h)
  | .l i :: as, t :: ts, us, env, h => by
    show (giveA as (ts ++ us) env).set i t = (giveA as ts env).set i t
    rw [giveA_cut (by simpa using h)]
theorem call_of {E : XK} {σ : L2.St} {H : Hp} {Q : VK} (h : tE X.K W (sCall n φ dvs γ) σ H Q)
    (hE : ∀ e R, ErE X.K W σ R e → ∀ x env cls d H', e x env → Wd H' (ExnA X.K x cls d • EnvA X.K env σ • R) → E cls d H') :
    tCall (spT X.K n φ) dvs E (tA X.K W γ) σ H Q := by
  obtain ⟨env, R, k', e, w, q, ok, er⟩ := h
  refine ⟨env, R, _, e, w, q, fun as env1 vs H1 k1 w1 => ?_, er⟩
  obtain ⟨ts, env2, k0, l1, l2, g1, g2, g3, f⟩ := take_of (K := X.K) (σ := σ) k1
  obtain ⟨hl, k2⟩ := ifT_get k0
  have hl := Nat.eq_of_beq_eq_true hl
  obtain ⟨w2, back⟩ := f vs H1 R w1
  have hvl := w2.lenL
  refine ⟨by rw [List.length_append, ← hvl]; exact hl, ts ++ dvs.map .fl, EnvA X.K env2 σ • R, _, _, ?_, k2, fun t ts' v H' k3 w3 => ok _ _ _ _ (force_mp k3) ?_, fun x ts' cls d H' k3 w3 => hE e R er x _ cls d H' (force_mp k3) ?_⟩
  · rw [RepL_app hvl, RepL_fl, star_emp]
    exact w2
  all_goals
    have l0 : ts'.length = (vs ++ dvs).length := w3.drop.lenL
    rw [List.length_append] at l0
    have l4 : (ts'.take as.length).length = as.length := by simp; omega
    have l5 : (ts'.take as.length).length = vs.length := by omega
    have e1 : ts' = ts'.take as.length ++ ts'.drop as.length := (List.take_append_drop _ _).symm
    have e2 : giveA as ts' env2 = giveA as (ts'.take as.length) env2 := by
      rw [e1, giveA_cut l4, ← e1]
    rw [e2]
    rw [e1, RepL_app l5] at w3
  · have w4 : Wd H' (RepL X.K (ts'.drop as.length) dvs • (RepL X.K (ts'.take as.length) vs • EnvA X.K env2 σ • (Rep X.K t v • R))) := w3.eq (by ac_rfl)
    exact (back _ H' _ l4 w4.drop).eq (by ac_rfl)
  · have w4 : Wd H' (RepL X.K (ts'.drop as.length) dvs • (RepL X.K (ts'.take as.length) vs • EnvA X.K env2 σ • (ExnA X.K x cls d • R))) := w3.eq (by ac_rfl)
    exact (back _ H' _ l4 w4.drop).eq (by ac_rfl)
/-- a call of a def that lets no exception out -/
def sCall0 (n : Nat) (φ : FT) (dvs : List V) (γ : SA) : SE := fun env k e => γ env (fun as env1 => takeA as env1 fun ts env2 => ifT (Nat.beq (ts.length + dvs.length) n) (φ (ts ++ dvs.map .fl) (fun t ts' => force (giveA as ts' env2) (k t)) (fun _ _ => False))) e
theorem call0_of {σ : L2.St} {H : Hp} {Q : VK} (h : tE X.K W (sCall0 n φ dvs γ) σ H Q) : tCall (spT X.K n φ) dvs E0 (tA X.K W γ) σ H Q := by
  obtain ⟨env, R, k', e, w, q, ok, er⟩ := h
  refine ⟨env, R, _, e, w, q, fun as env1 vs H1 k1 w1 => ?_, er⟩
  obtain ⟨ts, env2, k0, l1, l2, g1, g2, g3, f⟩ := take_of (K := X.K) (σ := σ) k1
  obtain ⟨hl, k2⟩ := ifT_get k0
  have hl := Nat.eq_of_beq_eq_true hl
  obtain ⟨w2, back⟩ := f vs H1 R w1
  have hvl := w2.lenL
  refine ⟨by rw [List.length_append, ← hvl]; exact hl, ts ++ dvs.map .fl, EnvA X.K env2 σ • R, _, _, ?_, k2, fun t ts' v H' k3 w3 => ok _ _ _ _ (force_mp k3) ?_, fun x ts' cls d H' k3 w3 => k3.elim⟩
  · rw [RepL_app hvl, RepL_fl, star_emp]
    exact w2
  have l0 : ts'.length = (vs ++ dvs).length := w3.drop.lenL
  rw [List.length_append] at l0
  have l4 : (ts'.take as.length).length = as.length := by simp; omega
  have l5 : (ts'.take as.length).length = vs.length := by omega
  have e1 : ts' = ts'.take as.length ++ ts'.drop as.length := (List.take_append_drop _ _).symm
  have e2 : giveA as ts' env2 = giveA as (ts'.take as.length) env2 := by
    rw [e1, giveA_cut l4, ← e1]
  rw [e2]
  rw [e1, RepL_app l5] at w3
  have w4 : Wd H' (RepL X.K (ts'.drop as.length) dvs • (RepL X.K (ts'.take as.length) vs • EnvA X.K env2 σ • (Rep X.K t v • R))) := w3.eq (by ac_rfl)
  exact (back _ H' _ l4 w4.drop).eq (by ac_rfl)
theorem d_call0 (F : FnOk X.prog X.w X.K X.mg X.base CX0 k f fd ps (spT X.K n φ)) (hr : Room k X.A) (hg : Gl X x) (hm : X.mg x = some (.ref f)) (hk : PySem.W.keepIn X.K (.ref f) = true) (hb : Binds X.K fd ps ds) (hd : Vals dvs ds)
    (ha : PDA X W (a :: es) γ) (hdb : (x == ("__debug__" : Str)) = false := by decide) (he : starEach (a :: es) X.env = (false, eval a X.env) :: starEach es X.env := by rfl) (hpl : (backTo pos (starEach es X.env)).any (·.1) = false := by rfl) :
    PD X W (.Call (.Name x p1) (a :: es) [] pos) (sCall0 n φ dvs γ) :=
  pe_weak (pe_call F hr hg hm hk hb hd pass0 ha hdb he hpl) fun _ _ _ h => call0_of h
end
/-! ### operators -/
section
variable {K : PySem.W.Frag}
theorem wd_fl2 {H : Hp} {x y a b : V} {A : Asn} (w : Wd H (Rep K (.fl x) a • Rep K (.fl y) b • A)) : a = x ∧ b = y ∧ Wd H A := ⟨wd_fl w, wd_fl w.drop, w.drop.drop⟩
def fI (C : Int → Int → Prop) (g : Int → Int → V) : F2 := fun t u k => asI t fun i => asI u fun j => C i j ∧ k (.fl (g i j))
def fI0 (g : Int → Int → V) : F2 := fun t u k => asI t fun i => asI u fun j => k (.fl (g i j))
theorem rb_I {C : Int → Int → Prop} {g : Int → Int → V} : RB K (fI C g) (rI C g) := fun ta tb x y H A k Q w h ok => by
  obtain ⟨i, rfl, h1⟩ := asI_get h
  obtain ⟨j, rfl, h2⟩ := asI_get h1
  clear h h1
  have h := h2
  obtain ⟨rfl, rfl, w1⟩ := wd_fl2 w
  clear w
  have w := w1
  clear w1
  exact ⟨i, j, rfl, rfl, h.1, ok _ _ _ h.2 (wd_ofl w)⟩
theorem rb_I0 {g : Int → Int → V} : RB K (fI0 g) (rI0 g) := fun ta tb x y H A k Q w h ok => by
  obtain ⟨i, rfl, h1⟩ := asI_get h
  obtain ⟨j, rfl, h2⟩ := asI_get h1
  clear h h1
  have h := h2
  obtain ⟨rfl, rfl, w1⟩ := wd_fl2 w
  clear w
  have w := w1
  clear w1
  exact ⟨i, j, rfl, rfl, ok _ _ _ h (wd_ofl w)⟩
/-- one of two rules, by the trees' kinds -/
theorem RB.or {f g : F2} {r s : R2} (h1 : RB K f r) (h2 : RB K g s) : RB K (fun t u k => f t u k ∨ g t u k) (fun x y H Q => r x y H Q ∨ s x y H Q) := fun ta tb x y H A k Q w h ok => h.imp (fun z => h1 ta tb x y H A k Q w z ok) fun z => h2 ta tb x y H A k Q w z ok
theorem RB.imp {f g : F2} {r : R2} (h1 : RB K f r) (h : ∀ t u k, g t u k → f t u k) : RB K g r := fun ta tb x y H A k Q w z ok => h1 ta tb x y H A k Q w (h _ _ _ z) ok
def fS (C : Str → Str → Prop) (g : Str → Str → V) : F2 := fun t u k => asS t fun i => asS u fun j => C i j ∧ k (.fl (g i j))
theorem rb_S {C : Str → Str → Prop} {g : Str → Str → V} : RB K (fS C g) (fun x y H Q => ∃ i j, x = .str i ∧ y = .str j ∧ C i j ∧ Q (g i j) H) := fun ta tb x y H A k Q w h ok => by
  obtain ⟨i, rfl, h1⟩ := asS_get h
  obtain ⟨j, rfl, h2⟩ := asS_get h1
  clear h h1
  have h := h2
  obtain ⟨rfl, rfl, w1⟩ := wd_fl2 w
  clear w
  have w := w1
  clear w1
  exact ⟨i, j, rfl, rfl, h.1, ok _ _ _ h.2 (wd_ofl w)⟩
theorem rb_S0 {g : Str → Str → V} : RB K (fS (fun _ _ => True) g) (fun x y H Q => ∃ i j, x = .str i ∧ y = .str j ∧ Q (g i j) H) := fun ta tb x y H A k Q w h ok => by
  obtain ⟨i, rfl, h1⟩ := asS_get h
  obtain ⟨j, rfl, h2⟩ := asS_get h1
  clear h h1
  have h := h2
  obtain ⟨rfl, rfl, w1⟩ := wd_fl2 w
  clear w
  have w := w1
  clear w1
  exact ⟨i, j, rfl, rfl, ok _ _ _ h.2 (wd_ofl w)⟩
/-- flat values -/
def asF (t : T) (k : V → Prop) : Prop := match t with
  | .d (.fl x) => k x
  | _ => False
theorem asF_get {t : T} {k : V → Prop} (h : asF t k) : ∃ x, t = .fl x ∧ k x := by
  unfold asF at h
  split at h
  · exact ⟨_, rfl, h⟩
  · exact h.elim
def fEq : F2 := fun t u k => asF t fun x => asF u fun y => ifT (scal x y) (k (.bl (decide (x = y))))
def fNe : F2 := fun t u k => asF t fun x => asF u fun y => ifT (scal x y) (k (.bl (!decide (x = y))))
theorem rb_eq : RB K fEq rEq := fun ta tb x y H A k Q w h ok => by
  obtain ⟨i, rfl, h1⟩ := asF_get h
  obtain ⟨j, rfl, h2⟩ := asF_get h1
  clear h h1
  have h := ifT_get h2
  obtain ⟨rfl, rfl, w1⟩ := wd_fl2 w
  clear w
  have w := w1
  clear w1
  exact ⟨h.1, ok _ _ _ h.2 (wd_ofl w)⟩
theorem rb_ne : RB K fNe rNe := fun ta tb x y H A k Q w h ok => by
  obtain ⟨i, rfl, h1⟩ := asF_get h
  obtain ⟨j, rfl, h2⟩ := asF_get h1
  clear h h1
  have h := ifT_get h2
  obtain ⟨rfl, rfl, w1⟩ := wd_fl2 w
  clear w
  have w := w1
  clear w1
  exact ⟨h.1, ok _ _ _ h.2 (wd_ofl w)⟩
/-- is None -/
def notRef : T → Bool
  | .gone => false
  | .d .any => false
  | _ => true
def isNonT : T → Bool
  | .d (.fl .non) => true
  | _ => false
theorem isNon_of {H : Hp} {t : T} {v : V} {A : Asn} (h : notRef t = true) (w : Wd H (Rep K t v • A)) : decide (v = .non) = isNonT t := by
  have hd := wd_den w
  cases t with
  | gone => cases h
  | d x =>
    cases x with
    | any => cases h
    | fl y =>
      simp only [frz, Den] at hd
      subst hd
      cases v <;> rfl
    | tup _ => simp only [frz, Den] at hd; obtain ⟨p, vs, rfl, _⟩ := hd; rfl
    | lst _ => simp only [frz, Den] at hd; obtain ⟨p, vs, rfl, _⟩ := hd; rfl
    | dK _ _ => simp only [frz, Den] at hd; obtain ⟨p, vs, rfl, _⟩ := hd; rfl
    | dT _ _ => simp only [frz, Den] at hd; obtain ⟨p, vs, rfl, _⟩ := hd; rfl
    | ins _ _ _ => simp only [frz, Den] at hd; obtain ⟨p, dx, vs, rfl, _⟩ := hd; rfl
  | tup _ => simp only [frz, Den] at hd; obtain ⟨p, vs, rfl, _⟩ := hd; rfl
  | lst _ => simp only [frz, Den] at hd; obtain ⟨p, vs, rfl, _⟩ := hd; rfl
  | dK _ _ => simp only [frz, Den] at hd; obtain ⟨p, vs, rfl, _⟩ := hd; rfl
  | dT _ _ => simp only [frz, Den] at hd; obtain ⟨p, vs, rfl, _⟩ := hd; rfl
  | ins _ _ _ => simp only [frz, Den] at hd; obtain ⟨p, dx, vs, rfl, _⟩ := hd; rfl
def fIsN : F2 := fun t u k => asF u fun y => ifT (y == .non) (ifT (notRef t) (k (.bl (isNonT t))))
def fNotN : F2 := fun t u k => asF u fun y => ifT (y == .non) (ifT (notRef t) (k (.bl (!isNonT t))))
theorem rb_isN : RB K fIsN (fun x y H Q => y = .non ∧ Q (.bl (decide (x = .non))) H) := fun ta tb x y H A k Q w h ok => by
  obtain ⟨j, rfl, h1⟩ := asF_get h
  clear h
  have h3 := ifT_get h1
  have h4 := ifT_get h3.2
  have h : j = V.non ∧ notRef ta = true ∧ _ := ⟨by simpa using h3.1, h4.1, h4.2⟩
  have e := isNon_of h.2.1 w
  have e2 := wd_fl w.drop
  refine ⟨by rw [e2]; exact h.1, ?_⟩
  rw [e]
  exact ok _ _ _ h.2.2 (wd_ofl w.drop.drop)
theorem rb_notN : RB K fNotN (fun x y H Q => y = .non ∧ Q (.bl (!decide (x = .non))) H) := fun ta tb x y H A k Q w h ok => by
  obtain ⟨j, rfl, h1⟩ := asF_get h
  clear h
  have h3 := ifT_get h1
  have h4 := ifT_get h3.2
  have h : j = V.non ∧ notRef ta = true ∧ _ := ⟨by simpa using h3.1, h4.1, h4.2⟩
  have e := isNon_of h.2.1 w
  have e2 := wd_fl w.drop
  refine ⟨by rw [e2]; exact h.1, ?_⟩
  rw [e]
  exact ok _ _ _ h.2.2 (wd_ofl w.drop.drop)
/-! subscripts -/
/-- what is there -/
def asO {α : Type} (o : Option α) (k : α → Prop) : Prop := match o with
  | some x => k x
  | none => False
theorem asO_get {α : Type} {o : Option α} {k : α → Prop} (h : asO o k) : ∃ x, o = some x ∧ k x := by
  cases o with
  | none => exact h.elim
  | some x => exact ⟨x, rfl, h⟩
theorem asO_of {α : Type} {o : Option α} {k : α → Prop} {x : α} (e : o = some x) (h : k x) : asO o k := by
  rw [e]
  exact h
/-- the item of a list, of a tuple, of a text -/
def fIx : F2 := fun t u k => asI u fun i => match t with
  | .d (.lst ds) => asO (atI ds i) fun x => k (.d x)
  | .d (.tup ds) => asO (atI ds i) fun x => k (.d x)
  | .lst ts => asO (atI ts i) k
  | .tup ts => asO (atI ts i) k
  | .d (.fl (.str z)) => z.length ≤ sizeLine ∧ asO (atI z.cps.toList i) fun c => k (.str ⟨#[c]⟩)
  | _ => False
theorem atI_len {α β : Type} {xs : List α} {ys : List β} {i : Int} {x : α} (h : atI xs i = some x) (hl : xs.length = ys.length) : ∃ j, xs[j]? = some x ∧ j < ys.length ∧ atI ys i = ys[j]? := by
  unfold atI at h ⊢
  cases e : ixN xs.length i with
  | none => rw [e] at h; cases h
  | some j =>
    rw [e] at h
    have hj := ixN_lt e
    exact ⟨j, h, by omega, by rw [← hl, e]; rfl⟩
theorem DenL_at {G : Hp} {ds : List D} {vs : List V} {i : Int} {d : D} (h : DenL K G ds vs) (e : atI ds i = some d) : ∃ v, atI vs i = some v ∧ Den K G d v := by
  obtain ⟨j, h1, h2, h3⟩ := atI_len e (DenL_len h)
  obtain ⟨v, e2, hd⟩ := DenL_get h h1
  exact ⟨v, h3.trans e2, hd⟩
theorem RepL_at {ts : List T} {vs : List V} {i : Int} {t : T} (hl : ts.length = vs.length) (e : atI ts i = some t) : ∃ v A, atI vs i = some v ∧ RepL K ts vs = Rep K t v • A := by
  obtain ⟨j, h1, h2, h3⟩ := atI_len e hl
  have e2 := List.getElem?_eq_getElem h2
  exact ⟨vs[j], _, h3.trans e2, RepL_take h1 e2⟩
theorem kn_of_den {H : Hp} {x : D} {v : V} {A : Asn} (w : Wd H (Rep K (.d x) v • A)) {y : D} {u : V} (f : ∀ G, Same G H → Den K G x v → Den K G y u) : Wd H (Rep K (.d y) u • A) := by
  obtain ⟨G, h, a, b, c, d, h1, h2, s, p, q⟩ := w
  rw [kn_den] at p
  exact ⟨G, h, a, b, c, d, h1, h2, s, kn_den.mpr ⟨p.1, f G a p.2⟩, q⟩
theorem rb_ix : RB K fIx (rIx K) := fun ta tb x y H A k Q w h ok => by
  obtain ⟨i, rfl, h1⟩ := asI_get h
  clear h
  have h := h1
  clear h1
  have e2 := wd_fl w.drop
  subst e2
  replace w : Wd H (Rep K ta x • A) := (w.eq (star_left _ _ _)).drop
  split at h
  · rename_i ds
    obtain ⟨d, e, hk⟩ := asO_get h
    · obtain ⟨G, h', a, b, c, d', h1, h2, s, p, q⟩ := w
      rw [kn_den] at p
      obtain ⟨p0, p⟩ := p
      simp only [Den] at p
      obtain ⟨r, vs, rfl, hT, hL⟩ := p
      obtain ⟨v, e3, hd⟩ := DenL_at hL e
      exact .inl ⟨r, vs, i, v, rfl, rfl, Same.seq a hT, e3, ok _ _ _ hk ⟨G, h', a, b, c, d', h1, h2, s, kn_den.mpr ⟨p0, hd⟩, q⟩⟩
  · rename_i ds
    obtain ⟨d, e, hk⟩ := asO_get h
    · obtain ⟨G, h', a, b, c, d', h1, h2, s, p, q⟩ := w
      rw [kn_den] at p
      obtain ⟨p0, p⟩ := p
      simp only [Den] at p
      obtain ⟨r, vs, rfl, hT, hL⟩ := p
      obtain ⟨v, e3, hd⟩ := DenL_at hL e
      exact .inr (.inl ⟨r, vs, i, v, rfl, rfl, (hT.same a).sq, e3, ok _ _ _ hk ⟨G, h', a, b, c, d', h1, h2, s, kn_den.mpr ⟨p0, hd⟩, q⟩⟩)
  · obtain ⟨t, e, hk⟩ := asO_get h
    · obtain ⟨r, vs, rfl, w2⟩ := wd_unlst w
      obtain ⟨v, A', e3, e4⟩ := RepL_at (K := K) w2.drop.lenL e
      rw [e4] at w2
      refine .inl ⟨r, vs, i, v, rfl, rfl, SqL.of w2.get, e3, ok _ _ _ hk ?_⟩
      have w3 := w2.drop
      have w4 : Wd H (A' • (Rep K t v • A)) := w3.eq (by ac_rfl)
      exact w4.drop
  · rename_i ts
    obtain ⟨t, e, hk⟩ := asO_get h
    · obtain ⟨r, ts', vs, rfl, hT, e5, w2, hl⟩ := wd_untup (t := .tup ts) (k := fun us => us = ts) rfl w
      subst e5
      obtain ⟨v, A', e3, e4⟩ := RepL_at (K := K) hl e
      rw [e4] at w2
      refine .inr (.inl ⟨r, vs, i, v, rfl, rfl, hT, e3, ok _ _ _ hk ?_⟩)
      have w4 : Wd H (A' • (Rep K t v • A)) := w2.eq (by ac_rfl)
      exact w4.drop
  · rename_i z
    obtain rfl := wd_fl w
    obtain ⟨hz, h⟩ := h
    obtain ⟨c, e, hk⟩ := asO_get h
    · exact .inr (.inr ⟨z, i, c, rfl, rfl, hz, e, ok _ _ _ hk (wd_ofl w.drop)⟩)
  · exact h.elim
end
end WC

/-! WLk: operators of several kinds, slices, calls of built-ins, methods. -/
namespace WC
open PySem PySem.Spec PyProof.Rows L2
section
variable {X : Cx} {K : PySem.W.Frag}
/-! ### list + list -/
def rCatS (K : PySem.W.Frag) : R2 := fun x y H Q => ∃ l b xs zs, x = .ref l ∧ y = .ref b ∧ SqL K H l xs ∧ SqL K H b zs ∧ xs.length + zs.length ≤ sizeLine ∧ ∀ p, H p = none → Q (.ref p) (upd H p (.lst (xs ++ zs)))
theorem op_catS : OpR X (binaryOp .Add) (rCatS X.K) := by
  intro pins s σ H x y v u Q I rx ry h
  obtain ⟨l, b, xs, zs, rfl, rfl, hH, hB, hz, q⟩ := h
  cases rx
  cases ry
  obtain ⟨its, r, pl, z⟩ := I.list hH
  obtain ⟨its2, r2, pl2, z2⟩ := I.list hB
  obtain ⟨⟨cls, dd, data, sl⟩, n, ho, hc, hdn, hd⟩ := pl
  obtain ⟨⟨cls2, dd2, data2, sl2⟩, n2, ho2, hc2, hdn2, hd2⟩ := pl2
  simp only at hc hd hc2 hd2
  subst hc hd hc2 hd2
  have ea : its.toArray ++ its2.toArray = (its ++ its2).toArray := by simp
  have l1 := r.length
  have l2 := r2.length
  refine concat_meets ⟨_, ho, rfl⟩ ⟨_, ho2, rfl⟩ noFill_list_add seq_list_add PySem.F.slot_list_add PySem.F.entry_list_add (PySem.F.args_list_add_2 _ _) (PyProof.Rows.list_addW l b its.toArray its2.toArray n n2 dd dd2 sl sl2 (by simp; omega)) ⟨ho, ho2, ?_⟩
  rw [ea]
  exact ⟨.ref _, _, I.lnew (t' := s.toks) (r.append r2) (by rw [List.length_append]; omega), rfl, q _ I.fresh⟩
theorem wd_seq2 {H : Hp} {t u : T} {x y : V} {A : Asn} {k : List T → List T → Prop} (h : itL t fun xs => itL u fun ys => k xs ys) (w : Wd H (Rep K t x • Rep K u y • A)) :
    ∃ (p q : Addr) (ts us : List T) (vs ws : List V), x = .ref p ∧ y = .ref q ∧ SqL K H p vs ∧ SqL K H q ws ∧ ts.length = vs.length ∧ us.length = ws.length ∧ k ts us ∧ Wd H (RepL K ts vs • RepL K us ws • A) := by
  obtain ⟨p, ts, vs, Sp, rfl, h2, l1, s1, w1⟩ := wd_unseq h w
  have w2 : Wd H (Rep K u y • (Sp • RepL K ts vs • A)) := w1.eq (by ac_rfl)
  obtain ⟨q, us, ws, Sq, rfl, h3, l2, s2, w3⟩ := wd_unseq h2 w2
  refine ⟨p, q, ts, us, vs, ws, rfl, rfl, s1 H _ (w3.eq (B := Sp • (Sq • RepL K us ws • RepL K ts vs • A)) (by ac_rfl)), s2 H _ w3, l1, l2, h3, ?_⟩
  have w4 : Wd H (Sp • Sq • (RepL K ts vs • RepL K us ws • A)) := w3.eq (by ac_rfl)
  exact w4.drop.drop
def fCat : F2 := fun t u k => itL t fun xs => itL u fun ys => xs.length + ys.length ≤ 1000000 ∧ k (.lst (xs ++ ys))
theorem le_mega {n : Nat} (h : n ≤ 1000000) : n ≤ sizeLine := Nat.le_trans h (by decide)
theorem rb_cat : RB K fCat (rCatS K) := fun ta tb x y H A k Q w h ok => by
  obtain ⟨p, q, ts, us, vs, ws, rfl, rfl, s1, s2, l1, l2, ⟨hl, h2⟩, w2⟩ := wd_seq2 h w
  refine ⟨p, q, vs, ws, rfl, rfl, s1, s2, le_mega (by omega), fun r hr => ok _ _ _ h2 ?_⟩
  have w3 := w2.alloc (o := .lst (vs ++ ws)) hr fun xs z => by cases z
  refine wd_lst (vs := vs ++ ws) ?_
  rw [RepL_app l1]
  exact w3.eq (by ac_rfl)
/-! ### + -/
def fAdd : F2 := fun t u k => match t with
  | .d (.fl (.int i)) => asI u fun j => k (.int (i + j))
  | .d (.fl (.str a)) => asS u fun b => a.length + b.length ≤ sizeLine ∧ k (.str (a ++ b))
  | _ => fCat t u k
def rAddA (K : PySem.W.Frag) : R2 := fun x y H Q => (rI0 fun i j => .int (i + j)) x y H Q ∨ (∃ i j, x = .str i ∧ y = .str j ∧ i.length + j.length ≤ sizeLine ∧ Q (.str (i ++ j)) H) ∨ rCatS K x y H Q
theorem op_addA : OpR X (binaryOp .Add) (rAddA X.K) := op_add.or (op_add_str.or op_catS)
theorem rb_add : RB K fAdd (rAddA K) := fun ta tb x y H A k Q w h ok => by
  unfold fAdd at h
  split at h
  · exact .inl (rb_I0 (g := fun i j => .int (i + j)) _ _ x y H A k Q w h ok)
  · exact .inr (.inl (rb_S (C := fun a b => a.length + b.length ≤ sizeLine) (g := fun a b => .str (a ++ b)) _ _ x y H A k Q w h ok))
  · exact .inr (.inr (rb_cat _ _ x y H A k Q w h ok))
abbrev fSub : F2 := fI0 fun i j => .int (i - j)
abbrev fMul : F2 := fI CMul fun i j => .int (i * j)
abbrev fDiv : F2 := fI CDiv fun i j => .int (i / j)
abbrev fMod : F2 := fI (fun _ j => 0 < j) fun i j => .int (i % j)
abbrev fPow : F2 := fI CPow fun i j => .int (i ^ j.toNat)
/-! ### orders -/
def fCmp (f : Int → Int → Bool) (g : Str → Str → Bool) : F2 := fun t u k => match t with
  | .d (.fl (.int i)) => asI u fun j => k (.bl (f i j))
  | .d (.fl (.str a)) => asS u fun b => k (.bl (g a b))
  | _ => False
theorem rb_cmp {f : Int → Int → Bool} {g : Str → Str → Bool} : RB K (fCmp f g) (fun x y H Q => (rI0 fun i j => .bl (f i j)) x y H Q ∨ (∃ i j, x = .str i ∧ y = .str j ∧ Q (.bl (g i j)) H)) := fun ta tb x y H A k Q w h ok => by
  unfold fCmp at h
  split at h
  · exact .inl (rb_I0 (g := fun i j => .bl (f i j)) _ _ x y H A k Q w h ok)
  · rename_i a
    obtain ⟨b, rfl, h2⟩ := asS_get h
    obtain ⟨rfl, rfl, w1⟩ := wd_fl2 w
    exact .inr ⟨_, _, rfl, rfl, ok _ _ _ h2 (wd_ofl w1)⟩
  · exact h.elim
def sLt (a b : Str) : Bool := decide (a.cps.toList < b.cps.toList)
abbrev fLt : F2 := fCmp (fun i j => decide (i < j)) (fun a b => decide (a.cps.toList < b.cps.toList))
abbrev fLe : F2 := fCmp (fun i j => decide (i ≤ j)) (fun a b => !decide (b.cps.toList < a.cps.toList))
abbrev fGt : F2 := fCmp (fun i j => decide (j < i)) (fun a b => decide (b.cps.toList < a.cps.toList))
abbrev fGe : F2 := fCmp (fun i j => decide (j ≤ i)) (fun a b => !decide (a.cps.toList < b.cps.toList))
theorem op_ltA : OpR X (compareOp .Lt) (fun x y H Q => (rI0 fun i j => .bl (decide (i < j))) x y H Q ∨ (∃ i j, x = .str i ∧ y = .str j ∧ Q (.bl (decide (i.cps.toList < j.cps.toList))) H)) := op_lt.or op_lt_str
theorem op_leA : OpR X (compareOp .LtE) (fun x y H Q => (rI0 fun i j => .bl (decide (i ≤ j))) x y H Q ∨ (∃ i j, x = .str i ∧ y = .str j ∧ Q (.bl (!decide (j.cps.toList < i.cps.toList))) H)) := op_le.or op_le_str
theorem op_gtA : OpR X (compareOp .Gt) (fun x y H Q => (rI0 fun i j => .bl (decide (j < i))) x y H Q ∨ (∃ i j, x = .str i ∧ y = .str j ∧ Q (.bl (decide (j.cps.toList < i.cps.toList))) H)) := op_gt.or op_gt_str
theorem op_geA : OpR X (compareOp .GtE) (fun x y H Q => (rI0 fun i j => .bl (decide (j ≤ i))) x y H Q ∨ (∃ i j, x = .str i ∧ y = .str j ∧ Q (.bl (!decide (i.cps.toList < j.cps.toList))) H)) := op_ge.or op_ge_str
/-! ### in: one sign in a text -/
def fInC : F2 := fun t u k => asS t fun s => asS u fun z => match s.cps.toList with
  | [c] => k (.bl (decide (c ∈ z.cps.toList)))
  | _ => False
def fNiC : F2 := fun t u k => asS t fun s => asS u fun z => match s.cps.toList with
  | [c] => k (.bl (!decide (c ∈ z.cps.toList)))
  | _ => False
theorem str_of1 {s : Str} {c : Nat} (h : s.cps.toList = [c]) : s = ⟨#[c]⟩ := by
  cases s with
  | mk cps =>
    have h : cps.toList = [c] := h
    have e : cps = #[c] := by
      apply Array.toList_inj.mp
      exact h
    rw [e]
theorem rb_inC : RB K fInC (fun x y H Q => ∃ (c : Nat) (z : Str), x = .str ⟨#[c]⟩ ∧ y = .str z ∧ Q (.bl (decide (c ∈ z.cps.toList))) H) := fun ta tb x y H A k Q w h ok => by
  obtain ⟨s, rfl, h1⟩ := asS_get h
  obtain ⟨z, rfl, h2⟩ := asS_get h1
  obtain ⟨rfl, rfl, w1⟩ := wd_fl2 w
  split at h2
  · rename_i c e
    rw [str_of1 e]
    exact ⟨c, z, rfl, rfl, ok _ _ _ h2 (wd_ofl w1)⟩
  · exact h2.elim
theorem rb_niC : RB K fNiC (fun x y H Q => ∃ (c : Nat) (z : Str), x = .str ⟨#[c]⟩ ∧ y = .str z ∧ Q (.bl (!decide (c ∈ z.cps.toList))) H) := fun ta tb x y H A k Q w h ok => by
  obtain ⟨s, rfl, h1⟩ := asS_get h
  obtain ⟨z, rfl, h2⟩ := asS_get h1
  obtain ⟨rfl, rfl, w1⟩ := wd_fl2 w
  split at h2
  · rename_i c e
    rw [str_of1 e]
    exact ⟨c, z, rfl, rfl, ok _ _ _ h2 (wd_ofl w1)⟩
  · exact h2.elim
/-! ### slices -/
abbrev FSl := T → Option Int → Option Int → (T → Prop) → Prop
def RSl (K : PySem.W.Frag) (f : FSl) (r : V → Option Int → Option Int → Hp → VK → Prop) : Prop := ∀ (t : T) (lo hi : Option Int) (x : V) (H : Hp) (A : Asn) (k : T → Prop) (Q : VK), Wd H (Rep K t x • A) → f t lo hi k → (∀ t v H', k t → Wd H' (Rep K t v • A) → Q v H') → r x lo hi H Q
abbrev SO := Nv → (Option Int → Nv → Prop) → XQ → Prop
def tO (K : PySem.W.Frag) (W : WX) (o : SO) : TO := fun σ H Q => ∃ env R k e, Wd H (EnvA K env σ • R) ∧ o env k e ∧ (∀ x env' H', k x env' → Wd H' (EnvA K env' σ • R) → Q x H') ∧ ErE K W σ R e
def sNoPart : SO := fun env k _ => k none env
def sPart (α : SE) : SO := fun env k e => α env (fun t env' => asI t fun i => k (some i) env') e
variable {W : WX} {a b c : Expr} {lo hi : Option Expr} {es : List Expr} {α β : SE} {γ : SA} {o o' : SO} {pos p1 p2 : Pos}
def PDO (X : Cx) (W : WX) (e : Option Expr) (o : SO) : Prop := PO X e (tO X.K W o)
theorem po_weak {e : Option Expr} {t t' : TO} (h : PO X e t) (f : ∀ σ H Q, t' σ H Q → t σ H Q) : PO X e t' := ⟨fun pins s σ H Q I q => h.run pins s σ H Q I (f _ _ _ q)⟩
theorem d_onone : PDO X W none sNoPart := po_weak po_none fun σ H Q ⟨env, R, k, e, w, h, ok, er⟩ => ok _ _ _ h w
theorem d_osome (h : PD X W a α) : PDO X W (some a) (sPart α) := po_weak (po_some h) fun σ H Q ⟨env, R, k, e, w, h, ok, er⟩ => ⟨env, R, _, e, w, h, fun t env1 v H1 k1 w1 => by
  obtain ⟨i, rfl, k2⟩ := asI_get k1
  obtain rfl := wd_fl w1
  exact ⟨i, rfl, ok _ _ _ k2 w1.drop⟩, er⟩
def sSl (f : FSl) (α : SE) (o o' : SO) : SE := fun env k e => α env (fun t env1 => o env1 (fun l env2 => o' env2 (fun h env3 => f t l h fun u => k u env3) e) e) e
theorem d_sl {f : FSl} {r : V → Option Int → Option Int → Hp → VK → Prop} (hr : SlR X r) (hf : RSl X.K f r) (he : PD X W a α) (hl : PDO X W lo o) (hh : PDO X W hi o') : PD X W (.Subscript a (.Slice lo hi none p2) pos) (sSl f α o o') :=
  pe_weak (pe_slice hr he hl hh) fun σ H Q ⟨env, R, k, e, w, h, ok, er⟩ => ⟨env, R, _, e, w, h, fun t env1 x H1 k1 w1 => by
    refine ⟨env1, Rep X.K t x • R, _, e, w1.eq (by ac_rfl), k1, fun l env2 H2 k2 w2 => ?_, er.more⟩
    refine ⟨env2, Rep X.K t x • R, _, e, w2, k2, fun u env3 H3 k3 w3 => ?_, er.more⟩
    exact hf t l u x H3 (EnvA X.K env3 σ • R) _ Q (w3.eq (by ac_rfl)) k3 fun z v H4 k4 w4 => ok _ _ _ _ k4 w4, er⟩
def cutG {α : Type} (xs : List α) (lo hi : Option Int) : List α := (xs.drop (HT.sIx xs.length 0 lo)).take (HT.sIx xs.length xs.length hi - HT.sIx xs.length 0 lo)
/-- a slice of a list, of a text -/
def fSl : FSl := fun t lo hi k => match t with
  | .d (.fl (.str z)) => z.length ≤ sizeLine ∧ k (.str (cutS z lo hi))
  | _ => itL t fun ts => k (.lst (cutG ts lo hi))
theorem RepL_cut : ∀ {ts : List T} {vs : List V} {i j : Nat}, ts.length = vs.length → ∃ A, RepL K ts vs = RepL K ((ts.drop i).take j) ((vs.drop i).take j) • A := by
  intro ts vs i j hl
  have e1 : ts = ts.take i ++ ((ts.drop i).take j ++ (ts.drop i).drop j) := by rw [List.take_append_drop, List.take_append_drop]
  have e2 : vs = vs.take i ++ ((vs.drop i).take j ++ (vs.drop i).drop j) := by rw [List.take_append_drop, List.take_append_drop]
  refine ⟨RepL K (ts.take i) (vs.take i) • RepL K ((ts.drop i).drop j) ((vs.drop i).drop j), ?_⟩
  have e3 : RepL K ts vs = RepL K (ts.take i ++ ((ts.drop i).take j ++ (ts.drop i).drop j)) (vs.take i ++ ((vs.drop i).take j ++ (vs.drop i).drop j)) := by rw [← e1, ← e2]
  rw [e3, RepL_app (by simp [hl]), RepL_app (by simp [hl])]
  ac_rfl
theorem rsl : RSl K fSl (fun x lo hi H Q => rSlL K x lo hi H Q ∨ rSlS x lo hi H Q) := fun t lo hi x H A k Q w h ok => by
  unfold fSl at h
  split at h
  · rename_i z
    obtain rfl := wd_fl w
    exact .inr ⟨z, rfl, h.1, ok _ _ _ h.2 (wd_ofl w.drop)⟩
  · obtain ⟨p, ts, vs, Sp, rfl, h2, l1, s1, w1⟩ := wd_unseq h w
    refine .inl ⟨p, vs, rfl, s1 H _ w1, fun q hq => ok _ _ _ h2 ?_⟩
    have w2 := w1.drop.alloc (o := .lst (cutV vs lo hi)) hq fun xs z => by cases z
    refine wd_lst (vs := cutV vs lo hi) ?_
    unfold cutG cutV
    rw [← l1]
    obtain ⟨A', e⟩ := RepL_cut (K := K) (i := HT.sIx ts.length 0 lo) (j := HT.sIx ts.length ts.length hi - HT.sIx ts.length 0 lo) l1
    rw [e] at w2
    unfold cutV at w2
    rw [← l1] at w2
    have w3 : Wd (upd H q (.lst ((vs.drop (HT.sIx ts.length 0 lo)).take (HT.sIx ts.length ts.length hi - HT.sIx ts.length 0 lo)))) (A' • (pt q (.lst ((vs.drop (HT.sIx ts.length 0 lo)).take (HT.sIx ts.length ts.length hi - HT.sIx ts.length 0 lo))) • RepL K ((ts.drop (HT.sIx ts.length 0 lo)).take (HT.sIx ts.length ts.length hi - HT.sIx ts.length 0 lo)) ((vs.drop (HT.sIx ts.length 0 lo)).take (HT.sIx ts.length ts.length hi - HT.sIx ts.length 0 lo)) • A)) := w2.eq (by ac_rfl)
    exact w3.drop
theorem sl_A : SlR X (fun x lo hi H Q => rSlL X.K x lo hi H Q ∨ rSlS x lo hi H Q) := sl_list.or sl_str
/-! ### calls -/
/-- of one argument -/
def fc1 (f : T → (T → Prop) → Prop) : FC := fun ts k => match ts with
  | [t] => f t k
  | _ => False
def fc2 (f : F2) : FC := fun ts k => match ts with
  | [t, u] => f t u k
  | _ => False
theorem rc1 {f : T → (T → Prop) → Prop} {r : V → Hp → VK → Prop} (h : ∀ (t : T) (x : V) (H : Hp) (A : Asn) (k : T → Prop) (Q : VK), Wd H (Rep K t x • A) → f t k → (∀ t v H', k t → Wd H' (Rep K t v • A) → Q v H') → r x H Q) :
    RC K (fc1 f) (fun xs H Q => ∃ x, xs = [x] ∧ r x H Q) := fun ts vs H A k Q w q ok => by
  unfold fc1 at q
  split at q
  · rename_i t
    have hl := w.lenL
    match vs, hl with
    | [v], _ =>
      rw [RepL_cons, RepL_nil, star_emp] at w
      exact ⟨v, rfl, h t v H A k Q w q ok⟩
  · exact q.elim
theorem rc2 {f : F2} {r : R2} (h : RB K f r) : RC K (fc2 f) (fun xs H Q => ∃ x y, xs = [x, y] ∧ r x y H Q) := fun ts vs H A k Q w q ok => by
  unfold fc2 at q
  split at q
  · rename_i t u
    have hl := w.lenL
    match vs, hl with
    | [v, v2], _ =>
      rw [RepL_cons, RepL_cons, RepL_nil, star_emp] at w
      exact ⟨v, v2, rfl, h t u v v2 H A k Q (w.eq (star_assoc _ _ _)) q ok⟩
  · exact q.elim
theorem callR_imp {f : Value} {r r' : List V → Hp → VK → Prop} (h : CallR X f r) (i : ∀ xs H Q, r' xs H Q → r xs H Q) : CallR X f r' := fun pins s σ H xs us Q I rv q => h pins s σ H xs us Q I rv (i _ _ _ q)
/-- how long -/
def fLen (t : T) (k : T → Prop) : Prop := match t with
  | .lst ts => k (.int (ts.length : Nat))
  | .d (.lst ds) => k (.int (ds.length : Nat))
  | .tup ts => k (.int (ts.length : Nat))
  | .d (.tup ds) => k (.int (ds.length : Nat))
  | .d (.fl (.str z)) => z.length ≤ sizeLine ∧ k (.int (z.length : Nat))
  | _ => False
theorem rc_len : RC K (fc1 fLen) (fun xs H Q => ∃ x, xs = [x] ∧ ∃ n : Nat, LenV K x H n ∧ Q (.int n) H) := rc1 fun t x H A k Q w h ok => by
  unfold fLen at h
  split at h
  · rename_i ts
    obtain ⟨p, us, vs, Sp, rfl, e, l1, s1, w1⟩ := wd_unseq (t := .lst ts) (k := fun us => us = ts) rfl w
    subst e
    exact ⟨_, .inl ⟨vs, s1 H _ w1, l1⟩, ok _ _ _ h (wd_ofl w1.drop.drop)⟩
  · rename_i ds
    obtain ⟨p, us, vs, Sp, rfl, e, l1, s1, w1⟩ := wd_unseq (t := .d (.lst ds)) (k := fun us => us = ds.map .d) rfl w
    subst e
    exact ⟨_, .inl ⟨vs, s1 H _ w1, by rw [← l1, List.length_map]⟩, ok _ _ _ h (wd_ofl w1.drop.drop)⟩
  · rename_i ts
    obtain ⟨p, us, vs, Sp, rfl, e, l1, s1, w1⟩ := wd_untupS (t := .tup ts) (k := fun us => us = ts) rfl w
    subst e
    exact ⟨_, .inr ⟨vs, s1 H _ w1, l1⟩, ok _ _ _ h (wd_ofl w1.drop.drop)⟩
  · rename_i ds
    obtain ⟨p, us, vs, Sp, rfl, e, l1, s1, w1⟩ := wd_untupS (t := .d (.tup ds)) (k := fun us => us = ds.map .d) rfl w
    subst e
    exact ⟨_, .inr ⟨vs, s1 H _ w1, by rw [← l1, List.length_map]⟩, ok _ _ _ h (wd_ofl w1.drop.drop)⟩
  · rename_i z
    obtain rfl := wd_fl w
    exact ⟨_, ⟨h.1, rfl⟩, ok _ _ _ h.2 (wd_ofl w.drop)⟩
  · exact h.elim
theorem cr_len : CallR X (.builtin "len") (fun xs H Q => ∃ x, xs = [x] ∧ ∃ n : Nat, LenV X.K x H n ∧ Q (.int n) H) := callR_imp call_len fun xs H Q ⟨x, e, n, l, q⟩ => ⟨x, n, e, l, q⟩
def fAbs (t : T) (k : T → Prop) : Prop := asI t fun i => k (.int (if i < 0 then -i else i))
theorem rc_abs : RC K (fc1 fAbs) (fun xs H Q => ∃ x, xs = [x] ∧ ∃ i, x = .int i ∧ Q (.int (if i < 0 then -i else i)) H) := rc1 fun t x H A k Q w h ok => by
  obtain ⟨i, rfl, h1⟩ := asI_get h
  obtain rfl := wd_fl w
  exact ⟨i, rfl, ok _ _ _ h1 (wd_ofl w.drop)⟩
theorem cr_abs : CallR X (.builtin "abs") (fun xs H Q => ∃ x, xs = [x] ∧ ∃ i, x = .int i ∧ Q (.int (if i < 0 then -i else i)) H) := callR_imp call_abs fun xs H Q ⟨x, e, i, ex, q⟩ => ⟨i, by rw [e, ex], q⟩
/-- int of an int, of a bool -/
def fInt (t : T) (k : T → Prop) : Prop := match t with
  | .d (.fl (.int i)) => k (.int i)
  | .d (.fl (.bl b)) => k (.int (if b = true then 1 else 0))
  | _ => False
theorem rc_int : RC K (fc1 fInt) (fun xs H Q => ∃ x, xs = [x] ∧ ((∃ i, x = .int i ∧ Q (.int i) H) ∨ ∃ b, x = .bl b ∧ Q (.int (if b then 1 else 0)) H)) := rc1 fun t x H A k Q w h ok => by
  unfold fInt at h
  split at h
  · obtain rfl := wd_fl w
    exact .inl ⟨_, rfl, ok _ _ _ h (wd_ofl w.drop)⟩
  · obtain rfl := wd_fl w
    exact .inr ⟨_, rfl, ok _ _ _ h (wd_ofl w.drop)⟩
  · exact h.elim
theorem cr_int : CallR X (.type "int") (fun xs H Q => ∃ x, xs = [x] ∧ ((∃ i, x = .int i ∧ Q (.int i) H) ∨ ∃ b, x = .bl b ∧ Q (.int (if b then 1 else 0)) H)) := callR_imp call_int1 fun xs H Q ⟨x, e, h⟩ => by
  subst e
  rcases h with ⟨i, e, q⟩ | ⟨b, e, q⟩
  · exact .inl ⟨i, by rw [e], q⟩
  · exact .inr ⟨b, by rw [e], q⟩
abbrev fMax2 : F2 := fI0 fun i j => .int (if j > i then j else i)
abbrev fMin2 : F2 := fI0 fun i j => .int (if j < i then j else i)
theorem cr_max2 (hc : X.calm = true) : CallR X (.builtin "max") (fun xs H Q => ∃ x y, xs = [x, y] ∧ (rI0 fun i j => .int (if j > i then j else i)) x y H Q) := callR_imp (call_max2 hc) fun xs H Q ⟨x, y, e, i, j, e1, e2, q⟩ => ⟨i, j, by rw [e, e1, e2], q⟩
theorem cr_min2 (hc : X.calm = true) : CallR X (.builtin "min") (fun xs H Q => ∃ x y, xs = [x, y] ∧ (rI0 fun i j => .int (if j < i then j else i)) x y H Q) := callR_imp (call_min2 hc) fun xs H Q ⟨x, y, e, i, j, e1, e2, q⟩ => ⟨i, j, by rw [e, e1, e2], q⟩
def fDivmod : F2 := fun t u k => asI t fun i => asI u fun j => CDiv i j ∧ k (.d (.tup [.int (i / j), .int (i % j)]))
theorem rb_divmod : RB K fDivmod (fun x y H Q => ∃ i j, x = .int i ∧ y = .int j ∧ CDiv i j ∧ ∀ p, H p = none → Q (.ref p) (upd H p (.tup [.int (i / j), .int (i % j)]))) := fun ta tb x y H A k Q w h ok => by
  obtain ⟨i, rfl, h1⟩ := asI_get h
  obtain ⟨j, rfl, h2⟩ := asI_get h1
  obtain ⟨rfl, rfl, w1⟩ := wd_fl2 w
  refine ⟨i, j, rfl, rfl, h2.1, fun p hp => ok _ _ _ h2.2 ?_⟩
  have w2 := wd_newTup (K := K) (vs := [.int (i / j), .int (i % j)]) w1 hp
  refine wd_mkTup (K := K) (ts := [.int (i / j), .int (i % j)]) (vs := [.int (i / j), .int (i % j)]) ?_
  rw [RepL_cons, RepL_cons, RepL_nil, rep_fl, rep_fl, emp_star, emp_star]
  exact w2.eq (by rw [emp_star])
theorem cr_divmod : CallR X (.builtin "divmod") (fun xs H Q => ∃ x y, xs = [x, y] ∧ ∃ i j, x = .int i ∧ y = .int j ∧ CDiv i j ∧ ∀ p, H p = none → Q (.ref p) (upd H p (.tup [.int (i / j), .int (i % j)]))) := callR_imp call_divmod fun xs H Q ⟨x, y, e, i, j, e1, e2, q⟩ => ⟨i, j, by rw [e, e1, e2], q⟩
/-- list of a list -/
def fList (t : T) (k : T → Prop) : Prop := itL t fun ts => k (.lst ts)
theorem rc_list : RC K (fc1 fList) (fun xs H Q => ∃ x, xs = [x] ∧ ∃ p ys, x = .ref p ∧ SqL K H p ys ∧ ∀ l, H l = none → Q (.ref l) (upd H l (.lst ys))) := rc1 fun t x H A k Q w h ok => by
  obtain ⟨p, ts, vs, Sp, rfl, h2, l1, s1, w1⟩ := wd_unseq h w
  refine ⟨p, vs, rfl, s1 H _ w1, fun l hl => ok _ _ _ h2 ?_⟩
  exact wd_lst (w1.drop.alloc hl fun xs z => by cases z)
theorem cr_list : CallR X (.type "list") (fun xs H Q => ∃ x, xs = [x] ∧ ∃ p ys, x = .ref p ∧ SqL X.K H p ys ∧ ∀ l, H l = none → Q (.ref l) (upd H l (.lst ys))) := callR_imp call_list_of fun xs H Q ⟨x, e, p, ys, ex, s, q⟩ => ⟨p, ys, by rw [e, ex], .inl s, q⟩
end
end WC

/-! WLl: isinstance, join, append and other methods. -/
namespace WC
open PySem PySem.Spec PyProof.Rows L2
inductive Ty where
  | bool | int | str | list | tuple
def Ty.nm : Ty → String
  | .bool => "bool" | .int => "int" | .str => "str" | .list => "list" | .tuple => "tuple"
def tyT : T → Option String
  | .d (.fl .non) => some "NoneType"
  | .d (.fl (.bl _)) => some "bool"
  | .d (.fl (.int _)) => some "int"
  | .d (.fl (.str _)) => some "str"
  | .d (.lst _) => some "list"
  | .lst _ => some "list"
  | .d (.tup _) => some "tuple"
  | .tup _ => some "tuple"
  | _ => none
def isTyS (m : String) (n : Ty) : Bool := m == n.nm || (m == "bool" && n.nm == "int")
theorem kit_table : ∀ m ∈ ["NoneType", "bool", "int", "str", "list", "tuple"], ∀ n ∈ ["bool", "int", "str", "list", "tuple"], kitB m n = some (m == n || (m == "bool" && n == "int")) := by decide +kernel
/-- whether it is one of them -/
def isTy : Ty → T → Bool
  | .bool, .d (.fl (.bl _)) => true
  | .int, .d (.fl (.bl _)) => true
  | .int, .d (.fl (.int _)) => true
  | .str, .d (.fl (.str _)) => true
  | .list, .d (.lst _) => true
  | .list, .lst _ => true
  | .tuple, .d (.tup _) => true
  | .tuple, .tup _ => true
  | _, _ => false
section
variable {X : Cx} {K : PySem.W.Frag} {W : WX} {a b c : Expr} {es : List Expr} {α β : SE} {γ : SA} {pos p1 apos : Pos}
theorem tyX_of {H : Hp} {t : T} {v : V} {A : Asn} {m : String} (h : tyT t = some m) (w : Wd H (Rep K t v • A)) : TyX K H v (.type m) := by
  have hd := wd_den w
  have L : ∀ {ds : List D}, Den K H (.lst ds) v → TyX K H v (.type "list") := fun {ds} hd => by
    simp only [Den] at hd
    obtain ⟨p, vs, rfl, hs, _⟩ := hd
    rcases hs with (hs | ⟨o, hs⟩) | ⟨o, its, n, hk, hc, _⟩
    · exact .base (.lst hs)
    · exact .base (.frz hs)
    · exact .kList hk hc
  have U : ∀ {ds : List D}, Den K H (.tup ds) v → TyX K H v (.type "tuple") := fun {ds} hd => by
    simp only [Den] at hd
    obtain ⟨p, vs, rfl, hs, _⟩ := hd
    rcases hs with hs | ((hs | ⟨o, hs⟩) | ⟨o, its, n, hk, hc, _⟩)
    · exact .base (.tup hs)
    · cases hs
    · cases hs
    · exact .kTuple hk hc
  unfold tyT at h
  split at h
  · cases h
    simp only [frz, Den] at hd
    subst hd
    exact .base .non
  · cases h
    simp only [frz, Den] at hd
    subst hd
    exact .base (.bl _)
  · cases h
    simp only [frz, Den] at hd
    subst hd
    exact .base (.int _)
  · cases h
    simp only [frz, Den] at hd
    subst hd
    exact .base (.str _)
  · cases h
    simp only [frz] at hd
    exact L hd
  · cases h
    simp only [frz] at hd
    exact L hd
  · cases h
    simp only [frz] at hd
    exact U hd
  · cases h
    simp only [frz] at hd
    exact U hd
  · cases h
theorem tyT_mem {t : T} {m : String} (h : tyT t = some m) : m ∈ ["NoneType", "bool", "int", "str", "list", "tuple"] := by
  unfold tyT at h
  split at h <;> first | (cases h; decide) | cases h
theorem isTy_eq {t : T} {m : String} (h : tyT t = some m) (n : Ty) : (m == n.nm || (m == "bool" && n.nm == "int")) = isTy n t := by
  unfold tyT at h
  split at h <;> first
    | (cases h; cases n <;> rfl)
    | cases h
theorem ty_mem (n : Ty) : n.nm ∈ ["bool", "int", "str", "list", "tuple"] := by cases n <;> decide
/-- isinstance(x, T) of a built-in class -/
def fIsTy (n : Ty) (t : T) (k : T → Prop) : Prop := ifT (tyT t).isSome (k (.bl (isTy n t)))
def sIsTy (n : Ty) (α : SE) : SE := fun env k e => α env (fun t env1 => fIsTy n t fun u => k u env1) e
theorem d_isTy {n : Ty} {x : Str} (hI : Gl X "isinstance") (mI : X.mg "isinstance" = none) (ha : PD X W a α) (hg : Gl X x) (hm : X.mg x = none) (hv : bootBuiltins x = some (.type n.nm)) (hbI : bootBuiltins "isinstance" = some (.builtin "isinstance") := by decide +kernel) (hn : x ≠ "__name__" := by decide) (hdb : (x == ("__debug__" : Str)) = false := by decide)
    (hs1 : starEach [a, .Name x p1] X.env = (false, eval a X.env) :: starEach [.Name x p1] X.env := by rfl) (hs2 : starEach [.Name x p1] X.env = (false, eval (.Name x p1) X.env) :: starEach [] X.env := by rfl) (hpl : (backTo pos (starEach [.Name x p1] X.env)).any (·.1) = false := by rfl) :
    PD X W (.Call (.Name "isinstance" apos) [a, .Name x p1] [] pos) (sIsTy n α) := by
  refine pe_weak (pe_callB call_isi hI mI hbI (pa_cons ha (pa_cons (pe_bltn (v := .ty n.nm) hg hm hv rfl hn hdb) pa_nil hs2) hs1) (by decide) (by decide) hs1 hpl) fun σ H Q ⟨env, R, k, e, w, h, ok, er⟩ => ?_
  refine ⟨env, R, _, e, w, h, fun t env1 v H1 k1 w1 => ?_, er⟩
  obtain ⟨hs, k2⟩ := ifT_get k1
  obtain ⟨m, hm2⟩ := Option.isSome_iff_exists.mp hs
  refine ⟨v, .ty n.nm, .type m, .type n.nm, isTy n t, rfl, .ty _, tyX_of hm2 w1, kit_ty ?_, ok _ _ _ _ k2 (wd_ofl w1.drop)⟩
  rw [kit_table m (tyT_mem hm2) n.nm (ty_mem n), isTy_eq hm2]
/-! texts of a list -/
def strsT : List T → Option (List Str)
  | [] => some []
  | .d (.fl (.str z)) :: ts => (strsT ts).map (z :: ·)
  | _ :: _ => none
theorem strsT_map : ∀ xs : List Str, strsT (xs.map T.str) = some xs
  | [] => rfl
  | x :: xs => by simp only [List.map_cons, strsT, strsT_map xs, Option.map_some]
theorem strsT_eq : ∀ {ts : List T} {xs : List Str}, strsT ts = some xs → ts = xs.map T.str
  | [], xs, h => by
    simp only [strsT, Option.some.injEq] at h
    subst h
    rfl
  | t :: ts, xs, h => by
    unfold strsT at h
    split at h
    · rename_i e
      cases e
    · rename_i z ts' e
      cases e
      simp only [Option.map_eq_some_iff] at h
      obtain ⟨ys, h1, rfl⟩ := h
      rw [strsT_eq h1]
      rfl
    · cases h
theorem RepL_fls {H : Hp} {A : Asn} : ∀ {ys vs : List V}, Wd H (RepL K (ys.map T.fl) vs • A) → vs = ys
  | [], [], _ => rfl
  | [], _ :: _, w => by have := w.lenL; simp at this
  | _ :: _, [], w => by have := w.lenL; simp at this
  | y :: ys, v :: vs, w => by
    rw [List.map_cons, RepL_cons] at w
    have w1 := w.eq (star_assoc _ _ _)
    have e1 := wd_fl w1
    have e2 := RepL_fls w1.drop
    rw [e1, e2]
def asSs (ts : List T) (k : List Str → Prop) : Prop := match strsT ts with
  | some xs => k xs
  | none => False
theorem asSs_get {ts : List T} {k : List Str → Prop} (h : asSs ts k) : ∃ xs, ts = xs.map T.str ∧ k xs := by
  unfold asSs at h
  split at h
  · rename_i xs e
    exact ⟨xs, strsT_eq e, h⟩
  · exact h.elim
/-- a.join(b) -/
def sJoin (α β : SE) : SE := fun env k e => α env (fun t env1 => asS t fun a => β env1 (fun u env2 => itL u fun ts => asSs ts fun ys => (ys.map (·.length)).sum + ys.length * a.length ≤ 16777216 ∧ k (.str (Txt.join a ys)) env2) e) e
theorem d_join (ho : PD X W a α) (he : PD X W b β) (hs : starEach [b] X.env = [(false, eval b X.env)] := by rfl) (hbase : attributeBase a "join" X.env (eval a X.env) = eval a X.env := by rfl) (hline : (apos.endLine == pos.line) = true := by rfl) :
    PD X W (.Call (.Attribute a "join" apos) [b] [] pos) (sJoin α β) :=
  pe_weak (pe_join ho he hs hbase hline) fun σ H Q ⟨env, R, k, e, w, h, ok, er⟩ => ⟨env, R, _, e, w, h, fun t env1 v H1 k1 w1 => by
    obtain ⟨z, rfl, k2⟩ := asS_get k1
    obtain rfl := wd_fl w1
    refine ⟨⟨z, rfl⟩, env1, R, _, e, w1.drop, k2, fun u env2 y H2 k3 w2 => ?_, er⟩
    obtain ⟨p, ts, vs, Sp, rfl, k4, l1, s1, w3⟩ := wd_unseq k3 w2
    obtain ⟨ys, rfl, hl, k5⟩ := asSs_get k4
    have w4 : Wd H2 (RepL X.K ((ys.map V.str).map T.fl) vs • (Sp • EnvA X.K env2 σ • R)) := by
      rw [List.map_map]
      exact w3.eq (by
        show Sp • RepL X.K (ys.map T.str) vs • EnvA X.K env2 σ • R = RepL X.K (ys.map T.str) vs • (Sp • EnvA X.K env2 σ • R)
        ac_rfl)
    have e2 := RepL_fls w4
    exact ⟨z, p, ys, rfl, rfl, .inl (by rw [← e2]; exact s1 H2 _ w3), hl, ok _ _ _ _ k5 (wd_ofl w3.drop.drop)⟩, er⟩
/-! ### methods of a list in a slot -/
/-- what a method does to the items, with its value -/
abbrev FM := List T → List T → (T → List T → Prop) → Prop
def sMeth (i : Nat) (f : FM) (γ : SA) : SE := fun env k e => asL (slot env i) fun _ => γ env (fun as env1 => allV as fun us => asL (slot env1 i) fun ts => f ts us fun t ts' => force (env1.set i (.lst ts')) (k t)) e
def RM (K : PySem.W.Frag) (f : FM) (r : V → List V → Hp → VK → Prop) : Prop := ∀ (ts us : List T) (q : Addr) (vs ws : List V) (H : Hp) (A : Asn) (k : T → List T → Prop) (Q : VK), Wd H (pt q (.lst vs) • RepL K ts vs • RepL K us ws • A) → f ts us k →
  (∀ t ts' v vs' H', k t ts' → Wd H' (pt q (.lst vs') • RepL K ts' vs' • Rep K t v • A) → Q v H') → r (.ref q) ws H Q
theorem meth_of {i : Nat} {f : FM} {r : V → List V → Hp → VK → Prop} {ta : TA} (hr : RM X.K f r) {σ : L2.St} {H : Hp} {Q : VK} (hta : ∀ σ H Q, tA X.K W γ σ H Q → ta σ H Q) (h : tE X.K W (sMeth i f γ) σ H Q) : tBM X.K "list" r (tVar i) ta σ H Q := by
  obtain ⟨env, R, k, e, w, h, ok, er⟩ := h
  obtain ⟨ts0, e0, h⟩ := asL_get h
  obtain ⟨q, vs, hq, w1, back⟩ := wd_slotL w e0
  refine ⟨.ref q, hq, .inl ⟨rfl, vs, SqL.of w1.get⟩, hta _ _ _ ⟨env, R, _, e, w, h, fun as env1 ws H1 k1 w2 => ?_, er⟩⟩
  obtain ⟨us, k2, e2⟩ := allV_get (σ := σ) (X := X) k1
  obtain ⟨ts, e3, k3⟩ := asL_get k2
  rw [e2] at w2
  have w3 : Wd H1 (EnvA X.K env1 σ • (RepL X.K us ws • R)) := w2.eq (by ac_rfl)
  obtain ⟨q', vs', hq', w4, back'⟩ := wd_slotL w3 e3
  rw [hq] at hq'
  cases hq'
  have hg : slot env1 i ≠ .gone := by rw [e3]; intro z; cases z
  have hs := slot_get hg
  refine hr ts us q vs' ws H1 (EnvA X.K (env1.set i .gone) σ • R) _ Q (w4.eq (by ac_rfl)) k3 fun t ts' v vs2 H2 k4 w5 => ok _ _ _ _ (force_mp k4) ?_
  rw [EnvA_back hq (List.getElem?_eq_some_iff.mp hs).1]
  have w6 := wd_lst (K := X.K) (ts := ts') (vs := vs2) (p := q) (A := Rep X.K t v • EnvA X.K (env1.set i .gone) σ • R) w5
  exact w6.eq (by ac_rfl)
theorem d_meth {i : Nat} {f : FM} {r : V → List V → Hp → VK → Prop} {id : String} {name : Str} (hr : RM X.K f r) (pa : PlainAttrs "list") (slt : Slot "list" name id) (hty : typeOf (.builtin id) = pure (.type "method_descriptor")) (hm : MtR X id r) (ho : PE X a (tVar i)) (ha : PDA X W (b :: es) γ)
    (hbase : attributeBase a name X.env (eval a X.env) = eval a X.env := by rfl)
    (hfew : ((backTo pos (starEach (b :: es) X.env)).all (fun x => !x.1) && (backToKw pos (keywordEach [] X.env)).all (fun x => x.1.isSome)
      && decide ((b :: es).length + ([] : List Keyword).length + (if ([] : List Keyword).isEmpty then 0 else 1) < 30)) = true := by rfl)
    (hline : (apos.endLine == pos.line) = true := by rfl) (hs : starEach (b :: es) X.env = (false, eval b X.env) :: starEach es X.env := by rfl) (hplain : (backTo pos (starEach es X.env)).any (·.1) = false := by rfl) :
    PD X W (.Call (.Attribute a name apos) (b :: es) [] pos) (sMeth i f γ) :=
  pe_weak (pe_bm pa slt hty hm ho ha hbase hfew hline hs hplain) fun _ _ _ h => meth_of hr (fun _ _ _ z => z) h
theorem d_meth0 {i : Nat} {f : FM} {r : V → List V → Hp → VK → Prop} {id : String} {name : Str} (hr : RM X.K f r) (pa : PlainAttrs "list") (slt : Slot "list" name id) (hty : typeOf (.builtin id) = pure (.type "method_descriptor")) (hm : MtR X id r) (ho : PE X a (tVar i))
    (hbase : attributeBase a name X.env (eval a X.env) = eval a X.env := by rfl) (hline : (apos.endLine == pos.line) = true := by rfl) :
    PD X W (.Call (.Attribute a name apos) [] [] pos) (sMeth i f sNil) :=
  pe_weak (pe_bm0 pa slt hty hm ho hbase hline) fun σ H Q h => by
    have h2 := meth_of (ta := tNil) hr (fun σ H Q ⟨env, R, k, e, w, h, ok, er⟩ => ok [] env [] H h (by
      show Wd H (emp • EnvA X.K env σ • R)
      rw [emp_star]
      exact w)) h
    exact h2
def fmAppend : FM := fun ts us k => match us with
  | [t] => ts.length < 1000000 ∧ k .non (ts ++ [t])
  | _ => False
theorem rm_append : RM K fmAppend rAppend := fun ts us q vs ws H A k Q w h ok => by
  unfold fmAppend at h
  split at h
  · rename_i t
    have w0 : Wd H (RepL K [t] ws • (pt q (.lst vs) • RepL K ts vs • A)) := w.eq (by ac_rfl)
    have hl := w0.lenL
    match ws, hl with
    | [v], _ =>
      have l1 : ts.length = vs.length := w.drop.lenL
      refine ⟨q, vs, v, rfl, rfl, w.get, Nat.lt_of_lt_of_le (show vs.length < 1000000 by omega) (by decide), ok _ _ _ (vs ++ [v]) _ h.2 ?_⟩
      have w1 := w.write (o' := .lst (vs ++ [v])) fun xs z => by cases z
      rw [RepL_app l1, rep_fl, emp_star]
      exact w1.eq (by ac_rfl)
  · exact h.elim
end
end WC
namespace WC
open PySem PySem.Spec PyProof.Rows L2
section
variable {X : Cx} {W : WX} {a : Expr} {α : SE}
/-- from now on stable -/
def sFrz (α : SE) : SE := fun env k e => α env (fun t env' => k (.d (frz t)) env') e
theorem d_frz (h : PD X W a α) : PD X W a (sFrz α) := pe_weak h fun σ H Q ⟨env, R, k, e, w, h, ok, er⟩ => ⟨env, R, _, e, w, h, fun t env1 v H1 k1 w1 => ok _ _ _ _ k1 (wd_frz w1), er⟩
end
end WC

/-! WLm: loops by what holds between turns; the words that unfold worths. -/
namespace WC
open PySem PySem.Spec PyProof.Rows L2
theorem own_1 {s : Str} {i : Nat} : ∀ j, (fun j => j == i) j = true → j ∈ [(s, i)].map (·.2) := fun j h => by simpa using h
theorem own_2 {s s' : Str} {i i' : Nat} : ∀ j, (fun j => j == i || j == i') j = true → j ∈ [(s, i), (s', i')].map (·.2) := fun j h => by simpa using h
theorem own_3 {s s' s'' : Str} {i i' i'' : Nat} : ∀ j, (fun j => j == i || j == i' || j == i'') j = true → j ∈ [(s, i), (s', i'), (s'', i'')].map (·.2) := fun j h => by simpa [or_assoc] using h
theorem own_4 {s s' s'' s3 : Str} {i i' i'' i3 : Nat} : ∀ j, (fun j => j == i || j == i' || j == i'' || j == i3) j = true → j ∈ [(s, i), (s', i'), (s'', i''), (s3, i3)].map (·.2) := fun j h => by simpa [or_assoc] using h
/-- a for by what holds between its turns -/
theorem forL_inv {g : STG} {δ : SS} {E : EndT} (Inv : Nat → Nv → Prop) : ∀ {ts : List T} {env : Nv} (n : Nat), Inv n env →
    (∀ i t env (N : Nv → Prop), ts[i]? = some t → Inv (n + i) env → (∀ env', Inv (n + i + 1) env' → N env') → g t env fun env' => δ ⟨N, E.rt, E.nx, N, E.ex⟩ env') → (∀ env, Inv (n + ts.length) env → E.nx env) → forL g δ E ts env
  | [], env, n, h0, hs, hd => hd env h0
  | t :: ts, env, n, h0, hs, hd => by
    refine hs 0 t env _ rfl h0 fun env' h1 => ?_
    refine forL_inv Inv (ts := ts) (n + 1) h1 (fun i u env2 N hu hi hN => ?_) fun env2 h2 => hd env2 ?_
    · refine hs (i + 1) u env2 N (by simpa using hu) ?_ fun env3 h3 => hN env3 ?_
      · rw [show n + (i + 1) = n + 1 + i by omega]
        exact hi
      · rw [show n + 1 + i + 1 = n + (i + 1) + 1 by omega]
        exact h3
    · rw [List.length_cons, show n + (ts.length + 1) = n + 1 + ts.length by omega]
      exact h2
theorem forL_of {g : STG} {δ : SS} {E : EndT} (Inv : Nat → Nv → Prop) {ts : List T} {env : Nv} (h0 : Inv 0 env)
    (hs : ∀ i t env (N : Nv → Prop), ts[i]? = some t → Inv i env → (∀ env', Inv (i + 1) env' → N env') → g t env fun env' => δ ⟨N, E.rt, E.nx, N, E.ex⟩ env') (hd : ∀ env, Inv ts.length env → E.nx env) : forK g δ E ts env := forK_eq.mpr <|
  forL_inv Inv 0 h0 (fun i t env N a b c => hs i t env N a (by rw [Nat.zero_add] at b; exact b) (by rw [Nat.zero_add] at c; exact c)) (by rw [Nat.zero_add]; exact hd)
/-- a comprehension by what holds between its turns -/
theorem lcL_inv {vs : List Nat} {g : STG} {p : SB} {α : SE} {k : List T → Nv → Prop} (Inv : Nat → List T → Nv → Prop) : ∀ {ts acc : List T} {env : Nv} (n : Nat), Inv n acc env →
    (∀ i t acc env (N : List T → Nv → Prop), ts[i]? = some t → Inv (n + i) acc env → (∀ acc' env', Inv (n + i + 1) acc' env' → N acc' env') →
      g t env fun env1 => p env1 (fun b env2 => wh b (α env2 (fun y env3 => N (acc ++ [y]) (wipeT env3 vs)) (fun _ _ => False)) (N acc (wipeT env2 vs))) (fun _ _ => False)) → (∀ acc env, Inv (n + ts.length) acc env → k acc env) → lcL vs g p α k ts acc env
  | [], acc, env, n, h0, hs, hd => hd acc env h0
  | t :: ts, acc, env, n, h0, hs, hd => by
    refine hs 0 t acc env (fun acc' env' => lcL vs g p α k ts acc' env') rfl h0 fun acc' env' h1 => ?_
    refine lcL_inv Inv (ts := ts) (n + 1) h1 (fun i u acc2 env2 N hu hi hN => ?_) fun acc2 env2 h2 => hd acc2 env2 ?_
    · refine hs (i + 1) u acc2 env2 N (by simpa using hu) ?_ fun acc3 env3 h3 => hN acc3 env3 ?_
      · rw [show n + (i + 1) = n + 1 + i by omega]
        exact hi
      · rw [show n + 1 + i + 1 = n + (i + 1) + 1 by omega]
        exact h3
    · rw [List.length_cons, show n + (ts.length + 1) = n + 1 + ts.length by omega]
      exact h2
theorem lcL_of {vs : List Nat} {g : STG} {p : SB} {α : SE} {k : List T → Nv → Prop} (Inv : Nat → List T → Nv → Prop) {ts : List T} {env : Nv} (h0 : Inv 0 [] env)
    (hs : ∀ i t acc env (N : List T → Nv → Prop), ts[i]? = some t → Inv i acc env → (∀ acc' env', Inv (i + 1) acc' env' → N acc' env') →
      g t env fun env1 => p env1 (fun b env2 => wh b (α env2 (fun y env3 => N (acc ++ [y]) (wipeT env3 vs)) (fun _ _ => False)) (N acc (wipeT env2 vs))) (fun _ _ => False)) (hd : ∀ acc env, Inv ts.length acc env → k acc env) : lcK vs g p α k ts [] env := lcK_eq.mpr <|
  lcL_inv Inv 0 h0 (fun i t acc env N a b c => hs i t acc env N a (by rw [Nat.zero_add] at b; exact b) (by rw [Nat.zero_add] at c; exact c)) (by rw [Nat.zero_add]; exact hd)
end WC
namespace WC
open PySem PySem.Spec PyProof.Rows L2
theorem atI_0 {α : Type} {x : α} {xs : List α} : atI (x :: xs) 0 = some x := atI_nat (j := 0) rfl
theorem atI_1 {α : Type} {x y : α} {xs : List α} : atI (x :: y :: xs) 1 = some y := atI_nat (j := 1) rfl
theorem atI_2 {α : Type} {x y z : α} {xs : List α} : atI (x :: y :: z :: xs) 2 = some z := atI_nat (j := 2) rfl
theorem atI_3 {α : Type} {x y z w : α} {xs : List α} : atI (x :: y :: z :: w :: xs) 3 = some w := atI_nat (j := 3) rfl
theorem ixN_3_0 : ixN 3 0 = some 0 := rfl
theorem ixN_3_1 : ixN 3 1 = some 1 := rfl
theorem ixN_3_2 : ixN 3 2 = some 2 := rfl
theorem cmul_r {i j : Int} (h1 : 0 ≤ j) (h2 : j < 18446744073709551616) : CMul i j := .inr ⟨Int.lt_of_lt_of_le (by decide) h1, h2⟩
theorem cmul_l {i j : Int} (h1 : 0 ≤ i) (h2 : i < 18446744073709551616) : CMul i j := .inl ⟨Int.lt_of_lt_of_le (by decide) h1, h2⟩
theorem nn_sq {c : Int} (h : 0 ≤ c) : 0 ≤ c * c := Int.mul_nonneg h h
theorem sq_le {c m : Int} (h : 0 ≤ c) (h2 : c ≤ m) : c * c ≤ m * m := Int.mul_le_mul h2 h2 h (Int.le_trans h h2)
end WC

namespace WC
open PySem PySem.Spec PyProof.Rows L2
theorem wh_of {b : Bool} {A B : Prop} (h1 : b = true → A) (h2 : b = false → B) : wh b A B := by
  cases b with
  | true => exact h1 rfl
  | false => exact h2 rfl
theorem wh_y {b : Bool} {A B : Prop} (h : b = true) (a : A) : wh b A B := by
  rw [h]
  exact a
theorem wh_n {b : Bool} {A B : Prop} (h : b = false) (a : B) : wh b A B := by
  rw [h]
  exact a
theorem wh_d {c : Prop} [Decidable c] {A B : Prop} (h1 : c → A) (h2 : ¬ c → B) : wh (decide c) A B := wh_of (fun h => h1 (of_decide_eq_true h)) fun h => h2 (of_decide_eq_false h)
/-- != -/
theorem wh_nd {c : Prop} [Decidable c] {A B : Prop} (h1 : ¬ c → A) (h2 : c → B) : wh (!decide c) A B := wh_of (fun h => h1 (by simpa using h)) fun h => h2 (by simpa using h)
theorem asN_of {o : Option Nat} {k : Nat → Prop} {i : Nat} (e : o = some i) (h : k i) : asN o k := by
  rw [e]
  exact h
theorem asO_at {α : Type} {xs : List α} {i : Int} {n : Nat} {k : α → Prop} {x : α} (h : i = n) (e : xs[n]? = some x) (hk : k x) : asO (atI xs i) k := by
  subst h
  exact asO_of (atI_nat e) hk
theorem at_map {α β : Type} {f : α → β} {xs : List α} {i : Int} (h0 : 0 ≤ i) (h1 : i < ((xs.map f).length : Nat)) : ∃ c, xs[i.toNat]? = some c ∧ atI (xs.map f) i = some (f c) := by
  rw [List.length_map] at h1
  have h2 : i.toNat < xs.length := by omega
  refine ⟨xs[i.toNat], List.getElem?_eq_getElem h2, ?_⟩
  have h3 : (xs.map f)[i.toNat]? = some (f xs[i.toNat]) := by rw [List.getElem?_map, List.getElem?_eq_getElem h2]; rfl
  have h4 := atI_nat h3
  rwa [Int.toNat_of_nonneg h0] at h4
theorem abs_nn (i : Int) : 0 ≤ (if i < 0 then -i else i) := by
  split <;> omega
theorem b01_nn (b : Bool) : 0 ≤ (if b = true then (1 : Int) else 0) := by
  cases b <;> decide
theorem b01_lt (b : Bool) : (if b = true then (1 : Int) else 0) < 2 := by
  cases b <;> decide
/-- == of ints -/
theorem wh_ei {i j : Int} {A B : Prop} (h1 : i = j → A) (h2 : ¬ i = j → B) : wh (decide (V.int i = V.int j)) A B := wh_d (fun h => h1 (V.int.inj h)) fun h => h2 fun e => h (by rw [e])
theorem wh_ni {i j : Int} {A B : Prop} (h1 : ¬ i = j → A) (h2 : i = j → B) : wh (!decide (V.int i = V.int j)) A B := wh_nd (fun h => h1 fun e => h (by rw [e])) fun h => h2 (V.int.inj h)
theorem cutG_map {α β : Type} (f : α → β) (xs : List α) (lo hi : Option Int) : cutG (xs.map f) lo hi = (cutG xs lo hi).map f := by
  unfold cutG
  rw [List.length_map, List.map_take, List.map_drop]
theorem cutG_to {α : Type} (xs : List α) (n : Nat) : cutG xs none (some (n : Int)) = xs.take n := by
  unfold cutG
  rw [HT.sIx_none, HT.sIx_nat, List.drop_zero, Nat.sub_zero]
  rw [← List.take_eq_take_min]
theorem cutG_from {α : Type} (xs : List α) (n : Nat) : cutG xs (some (n : Int)) none = xs.drop n := by
  unfold cutG
  rw [HT.sIx_none, HT.sIx_nat]
  rcases Nat.le_total n xs.length with h | h
  · rw [Nat.min_eq_left h, List.take_of_length_le (by rw [List.length_drop]; omega)]
  · rw [Nat.min_eq_right h, Nat.sub_self, List.take_zero, List.drop_eq_nil_of_le h]
theorem cutG_ft {α : Type} (xs : List α) (n m : Nat) : cutG xs (some (n : Int)) (some (m : Int)) = (xs.take m).drop n := by
  unfold cutG
  rw [HT.sIx_nat, HT.sIx_nat, List.drop_take]
  rcases Nat.le_total n xs.length with h | h
  · rw [Nat.min_eq_left h]
    rcases Nat.le_total m xs.length with g | g
    · rw [Nat.min_eq_left g]
    · rw [Nat.min_eq_right g, List.take_of_length_le (by rw [List.length_drop]; omega), List.take_of_length_le (by rw [List.length_drop]; omega)]
  · rw [Nat.min_eq_right h, List.drop_eq_nil_of_le h, List.drop_eq_nil_of_le (Nat.le_refl _), List.take_nil, List.take_nil]
theorem ixN_at {n j : Nat} {i : Int} (hj : j < n) (e : i = j) : ixN n i = some j := by
  rw [e]
  unfold ixN
  rw [if_pos (by omega), if_pos (by omega)]
  rfl
theorem frzL_at {ts : List T} {n : Nat} {t : T} (h : ts[n]? = some t) : (frzL ts)[n]? = some (frz t) := by
  rw [frzL_map, List.getElem?_map, h]
  rfl
theorem frzL_of {α : Type} {f : α → T} {g : α → D} (h : ∀ x, frz (f x) = g x) (xs : List α) : frzL (xs.map f) = xs.map g := by
  rw [frzL_map, List.map_map]
  exact List.map_congr_left fun x _ => h x
/-- the text of one sign -/
abbrev sgn (c : Nat) : Str := ⟨#[c]⟩
theorem sgn_sum : ∀ cs : List Nat, ((cs.map sgn).map (·.length)).sum = cs.length
  | [] => rfl
  | c :: cs => by
    rw [List.map_cons, List.map_cons, List.sum_cons, sgn_sum cs, List.length_cons, Nat.add_comm]
    rfl
theorem tl_joinE : ∀ ys : List (List Nat), TL.joinL [] ys = ys.flatten
  | [] => rfl
  | [p] => by simp [TL.joinL]
  | p :: q :: r => by
    show p ++ ([] ++ TL.joinL [] (q :: r)) = _
    rw [List.nil_append, tl_joinE (q :: r)]
    simp
theorem joinE (ys : List Str) : (Txt.join (Str.ofString "") ys).cps.toList = (ys.map fun y => y.cps.toList).flatten := by
  rw [TL.join_eq]
  exact (TL.tl_join _ ys).trans (tl_joinE _)
theorem sgn_join (cs : List Nat) : (Txt.join (Str.ofString "") (cs.map sgn)).length = cs.length := by
  show Array.size _ = _
  rw [← Array.length_toList, joinE, List.map_map]
  show (cs.map fun c => [c]).flatten.length = _
  induction cs with
  | nil => rfl
  | cons c cs ih => simp [ih]
theorem lets_len : (Str.ofString "abcdefghijklmnopqrstuvwxyz").cps.toList.length = 26 := by decide +kernel
/-- one of two -/
theorem at2 {x y : Int} {r : Int} {m : Nat} (h0 : 0 ≤ r) (h1 : r < 2) (hx : 0 ≤ x) (hx2 : x ≤ m) (hy : 0 ≤ y) (hy2 : y ≤ m) : ∃ n : Nat, atI [T.int x, T.int y] r = some (.int n) ∧ n ≤ m := by
  obtain ⟨p, rfl⟩ := Int.eq_ofNat_of_zero_le hx
  obtain ⟨q, rfl⟩ := Int.eq_ofNat_of_zero_le hy
  rcases (show r = 0 ∨ r = 1 by omega) with h | h
  · subst h
    exact ⟨p, atI_0, by omega⟩
  · subst h
    exact ⟨q, atI_1, by omega⟩
theorem app_len (a b : Str) : (a ++ b).length = a.length + b.length := Array.size_append ..
theorem cutS_le (z : Str) (lo hi : Option Int) : (cutS z lo hi).length ≤ z.length := cutS_length z lo hi
theorem forK_cons {g : STG} {δ : SS} {E : EndT} {t : T} {ts : List T} {env : Nv} (h : g t env fun env' => δ ⟨forK g δ E ts, E.rt, E.nx, forK g δ E ts, E.ex⟩ env') : forK g δ E (t :: ts) env := by
  rw [forK_eq]
  show g t env fun env' => δ ⟨forL g δ E ts, E.rt, E.nx, forL g δ E ts, E.ex⟩ env'
  have e : forK g δ E ts = forL g δ E ts := funext fun _ => forK_eq
  rw [← e]
  exact h
theorem forK_nil {g : STG} {δ : SS} {E : EndT} {env : Nv} (h : E.nx env) : forK g δ E [] env := by
  rw [forK_eq]
  exact h
theorem line2 {a b m n : Nat} (ha : a ≤ m) (hb : b ≤ n) (h : m + n ≤ 1000000) : a + b ≤ sizeLine := Nat.le_trans (Nat.le_trans (Nat.add_le_add ha hb) h) (by decide)
theorem len_app {a b : Str} {m n : Nat} (ha : a.length ≤ m) (hb : b.length ≤ n) : (a ++ b).length ≤ m + n := by
  rw [app_len]
  exact Nat.add_le_add ha hb
theorem sgn_lt {c d : Nat} : ([c] < [d]) ↔ c < d := by
  constructor
  · intro h
    cases h with
    | rel h => exact h
    | cons h => cases h
  · intro h
    exact .rel h
theorem den_ints {K : PySem.W.Frag} {G : Hp} : ∀ ns : List Int, DenL K G (ns.map D.int) (ns.map V.int)
  | [] => by simp only [List.map_nil, DenL]
  | n :: ns => by
    simp only [List.map_cons, DenL]
    exact ⟨by simp only [Den], den_ints ns⟩
/-- the law's own call -/
theorem start_of {K : PySem.W.Frag} {φ : FT} {H : Hp} {a : Addr} {ns : List Int} (hS : SqL K H a (ns.map V.int)) (hφ : φ [.d (.lst (ns.map D.int))] (fun t _ => t = .bl true) fun _ _ => False) :
    spT K 1 φ [.ref a] H (fun v _ => v = .bl true) fun _ _ _ => False := by
  refine ⟨rfl, _, emp, _, _, ?_, hφ, fun t ts' v H' hk w => ?_, fun _ _ _ _ _ h _ => h⟩
  · rw [RepL_cons, RepL_nil, star_emp, star_emp]
    refine ⟨H, Hp0, fun _ _ e => e, fun _ _ e => (by cases e), fun _ => .inr rfl, fun _ _ e => (by cases e), ?_⟩
    refine kn_den.mpr ⟨rfl, ?_⟩
    simp only [Den]
    exact ⟨a, _, rfl, hS, den_ints ns⟩
  · subst hk
    exact wd_fl w
/-- a drawer of numbers -/
abbrev boxT (a b c : Int) : T := .lst [.int a, .int b, .int c]
end WC

/-! WLn: promises that are kept where no text of a value is being made (str of data wants that). -/
namespace WC
open PySem PySem.Spec PyProof.Rows L2
structure FnG (P : Program) (w : World) (K : PySem.W.Frag) (mg : Str → Option Value) (base : Heap) (CX : CXT) (k : Nat) (f : Addr) (fd : FuncData) (ps : List Str) (sp : Sp) : Prop where
  ln : ∀ xs H Q E, sp xs H Q E → xs.length = ps.length
  go : ∀ (A : Around) (lo : List Env) (s : Shared) (H : Hp) (as : Args) (us : List Value) (xs : List V) (Q : VK) (E : XK), A.guards = some [] → Room k A → Env0 P w K mg base A lo s H → BindsTo s fd as (ps.zip us) → Vals xs us → sp xs H Q E → codeAny (model P w) A (.call (.ref f) as) (CR CX lo P w H s Q E) s
section
variable {P : Program} {w : World} {K : PySem.W.Frag} {mg : Str → Option Value} {base : Heap} {CX : CXT} {k : Nat} {f : Addr} {fd : FuncData} {ps : List Str} {sp : Sp}
theorem FnG.of (F : FnOk P w K mg base CX k f fd ps sp) : FnG P w K mg base CX k f fd ps sp := ⟨F.len, fun A lo s H as us xs Q E _ => F.run A lo s H as us xs Q E⟩
theorem FnG.up {j : Nat} (F : FnG P w K mg base CX k f fd ps sp) (h : k ≤ j) : FnG P w K mg base CX j f fd ps sp := ⟨F.ln, fun A lo s H as us xs Q E g hr => F.go A lo s H as us xs Q E g (hr.mono h)⟩
end
section
variable {X : Cx} {CX : CXT} {k : Nat} {f : Addr} {fd : FuncData} {ps : List Str} {sp : Sp} {dvs : List V} {ds : List Value} {E : L2.St → XK} {x : Str} {p pos : Pos} {e : Expr} {es : List Expr} {t : TA}
theorem fg_run {pins : List (Addr × Obj)} {σ : L2.St} {H : Hp} {s : Shared} {Q : VK} {us : List Value} {xs : List V} {E : XK} (F : FnG X.prog X.w X.K X.mg X.base CX k f fd ps sp) (hG : X.A.guards = some []) (hr : Room k X.A) (hb : Binds X.K fd ps ds) (hd : Vals dvs ds)
    (hx : ∀ e s', CX X.stack H s E e s' → X.xe e s') (I : Inv X pins σ H s) (r : Vals xs us) (h : sp (xs ++ dvs) H Q E) : wpAny (model X.prog X.w) X.A (call (.ref f) us) (EP X pins σ Q) X.xe s := by
  have rr : Vals (xs ++ dvs) (us ++ ds) := r.append hd
  have nl : (us ++ ds).length = ps.length := rr.length.symm.trans (F.ln _ _ _ _ h)
  have c := F.go X.A X.stack s H ⟨us, []⟩ (us ++ ds) (xs ++ dvs) Q E hG hr I.env0 (hb s us I.kIn nl) rr h
  refine wpAny_call (codeAny_mono c ?_)
  rintro (er | fl) s' z
  · exact hx er s' z
  · cases fl with
    | ret u => exact I.after z
    | _ => exact z.elim
theorem pe_callG (F : FnG X.prog X.w X.K X.mg X.base CX k f fd ps sp) (hG : X.A.guards = some []) (hr : Room k X.A) (hg : Gl X x) (hm : X.mg x = some (.ref f)) (hk : PySem.W.keepIn X.K (.ref f) = true) (hb : Binds X.K fd ps ds) (hd : Vals dvs ds) (hx : ∀ σ, PassesAt CX X σ (E σ))
    (ha : PA X (e :: es) t) (nb : (x == ("__debug__" : Str)) = false := by decide) (hs : starEach (e :: es) X.env = (false, eval e X.env) :: starEach es X.env := by rfl) (pl : (backTo pos (starEach es X.env)).any (·.1) = false := by rfl) :
    PE X (.Call (.Name x p) (e :: es) [] pos) (tCallSD sp dvs E t) := ⟨fun pins s σ H Q I h => by
  refine wpAny_Call_Name_kw (ld_glob I hg hm ?_ nb)
  refine PySem.W.callWith_K (h₀ := X.base) I.ok.mod.kin hk ?_ hs pl
  refine thn (ha.run pos pins s σ H _ I h) ?_
  rintro us s1 ⟨xs, H1, J, r, q⟩
  exact ⟨J.kIn, fg_run F hG hr hb hd (fun er s' z => hx σ pins H1 s1 er s' J z) J r q⟩⟩
end
section
variable {X : Cx} {W : WX} {a : Expr} {es : List Expr} {γ : SA} {pos p1 : Pos} {x : Str} {k n : Nat} {f : Addr} {fd : FuncData} {ps : List Str} {φ : FT} {dvs : List V} {ds : List Value}
theorem d_callG0 (F : FnG X.prog X.w X.K X.mg X.base CX0 k f fd ps (spT X.K n φ)) (hG : X.A.guards = some []) (hr : Room k X.A) (hg : Gl X x) (hm : X.mg x = some (.ref f)) (hk : PySem.W.keepIn X.K (.ref f) = true) (hb : Binds X.K fd ps ds) (hd : Vals dvs ds)
    (ha : PDA X W (a :: es) γ) (nb : (x == ("__debug__" : Str)) = false := by decide) (hs : starEach (a :: es) X.env = (false, eval a X.env) :: starEach es X.env := by rfl) (pl : (backTo pos (starEach es X.env)).any (·.1) = false := by rfl) :
    PD X W (.Call (.Name x p1) (a :: es) [] pos) (sCall0 n φ dvs γ) :=
  pe_weak (pe_callG (E := fun _ => E0) F hG hr hg hm hk hb hd (fun _ _ _ _ _ _ _ z => z.elim) ha nb hs pl) fun _ _ _ h => call0_of h
end
end WC
namespace WC
open PySem PySem.Spec PyProof.Rows L2
section
variable {P : Program} {w : World} {K : PySem.W.Frag} {mg : Str → Option Value} {base : Heap}
/-- a def's promise, from its body -/
theorem fun_okG {x qual : Str} {st : Stmt} {f : Addr} {fd : FuncData} {N ps : List Str} {k : Nat} {sp : Sp} {CX : CXT} (F : Fun K x qual st f fd) (S : FnScope N ps (defScope st)) (ln : ∀ xs H Q E, sp xs H Q E → xs.length = ps.length)
    (hB : ∀ (cdv : Value) (A : Around) (lo : List Env) (s : Shared) (H : Hp) (xs : List V) (Q : VK) (E : XK), A.guards = some [] → Room k (A.deeper (envOfC qual (defScope st) s.heap.objs.size f cdv)) → sp xs H Q E →
      ∃ t, PSs (cxOf CX P w K mg base N qual (defScope st) f cdv A lo s H E) (defBody st) t ∧ t { nx := fun _ H1 => Q .non H1, rt := Q } (L2.start N xs) H) : FnG P w K mg base CX (k + 1) f fd ps sp := by
  obtain ⟨oc, od, kV, dc, pm, an, cdv, ct, sl, rfl, lk, hc⟩ := F.ex
  refine ⟨ln, fun A lo s H as us xs Q E hG hr e0 hb r q => ?_⟩
  have old : ∀ b o, base.get? b = some o → s.heap.get? b = some o := fun b o z => (e0.bs b o z).1
  have KX : K.In s.heap := e0.mod.kin.keeps old
  refine codeAny_call_function hr.depth (KX _ _ lk) rfl S.co S.gen rfl (PySem.W.codeRec_of KX hc) (hb _ _ _ _ (wpAny_newFunctionEnv_cells S.kind ?_ ?_))
  · rintro ⟨y, u⟩ hy
    refine (S.par y (List.of_mem_zip hy).1).imp id fun z => ⟨z, ?_⟩
    exact PySem.W.cellsFrom_some _ _ _ (.inl z)
  · rintro env rfl s1 x1
    refine ⟨(e0.mod.nolimit.keeps old).keeps x1.toInCall.keep, codeAny_func ?_⟩
    obtain ⟨t, ht, hq⟩ := hB cdv A lo s H xs Q E hG (hr.deeper _) q
    refine wpAny_mono (ht.run [] s1 (L2.start N xs) H _ (inv_start S hr.hd e0 (ln _ _ _ _ q) r x1) hq) ?_ fun _ _ z => z
    intro fl s2 z
    cases fl with
    | ret u =>
      obtain ⟨v, σ1, H1, J, rv, q1⟩ := z
      exact ⟨v, H1, J.os, J.bare, J.base, J.hok, rv, q1⟩
    | next =>
      obtain ⟨σ1, H1, J, q1⟩ := z
      exact ⟨.non, H1, J.os, J.bare, J.base, J.hok, rfl, q1⟩
    | brk =>
      obtain ⟨_, _, _, q1⟩ := z
      exact q1.elim
    | cont =>
      obtain ⟨_, _, _, q1⟩ := z
      exact q1.elim
/-- a def that lets no exception out, where no text of a value is being made -/
theorem def_okG {x qual : Str} {st : Stmt} {f : Addr} {fd : FuncData} {N ps : List Str} {k : Nat} {φ : FT} (B : Nat → Bool) (F : Fun K x qual st f fd) (S : FnScope N ps (defScope st)) (δ : SS)
    (hb : ∀ (cdv : Value) (A : Around) (lo : List Env) (s : Shared) (H : Hp) (E : XK), A.guards = some [] → Room k (A.deeper (envOfC qual (defScope st) s.heap.objs.size f cdv)) →
      PDSs (cxOf CX0 P w K mg base N qual (defScope st) f cdv A lo s H E).nox W0 B (defBody st) δ)
    (hφ : ∀ ts k e, ts.length = ps.length → φ ts k e → δ (endP B ts k fun _ _ => False) (ts ++ List.replicate (N.length - ps.length) .gone)) : FnG P w K mg base CX0 (k + 1) f fd ps (spT K ps.length φ) :=
  fun_okG F S (fun xs H Q E h => h.1) fun cdv A lo s H xs Q E hG hr h => ⟨_, (hb cdv A lo s H E hG hr).nox, def_core B δ h hφ⟩
end
end WC
namespace WC
open PySem PySem.Spec PyProof.Rows L2
section
variable {X : Cx}
/-- str of a list, of a tuple -/
theorem call_strD (hG : X.A.guards = some []) (hu : X.A.units + 64 < cLine) : CallR X (.type "str") (fun xs H Q => ∃ a d, xs = [V.ref a] ∧ Dp X.K H (.ref a) d ∧ d.showable = true ∧ d.hasDict = false ∧ d.depth ≤ 50 ∧ d.shown.length ≤ sizeLine ∧ Q (.str d.shown) H) := by
  intro pins s σ H xs us Q I r ⟨a, d, e, hd, hs, hn, hp, hl, q⟩
  subst e
  obtain ⟨as, rd⟩ := Dp.reads I d _ _ hd (show RelV (.ref a) (Value.ref a) from rfl)
  rw [Vals.ref1 r]
  exact str_of_reads rd hs (PyData.noDict_hsm hn) hG (by omega) (fun _ _ e => e) (fun h1 u tk hk => ⟨.str d.shown, H, I.kept hk, ⟨u, rfl⟩, q⟩) hl
end
end WC
namespace WC
open PySem PySem.Spec PyProof.Rows L2
/-! ### the law's own call -/
theorem top_callG {P : Program} {w : World} {K : PySem.W.Frag} {mg mb : Str → Option Value} {CX : CXT} {k : Nat} {fa a : Addr} {fd : FuncData} {x : Str} {sp : Sp} {s : Shared} {us : List Value} {ns : List Int}
    (KX : K.In s.heap) (hM : s.heap.Ns mainGlobals mg) (hB : s.heap.Ns builtinsNs mb) (hbb : ∀ x : Str, x ≠ "__name__" → mb x = bootBuiltins x) (hL : s.heap.NoLimit) (hg : s.gens = #[])
    (ha : s.heap.get? a = some { cls := .type "list", data := .seq us.toArray }) (hi : IntsAre us ns) (hl : ns.length ≤ sizeLine) (hr : Room k callerA)
    (F : ∀ base : Heap, K.In base → base.Ns mainGlobals mg → FnG P w K mg base CX k fa fd [x] sp) (hb : ∀ (s : Shared) (u : Value), BindsTo s fd ⟨[u], []⟩ [(x, u)])
    (hsp : ∀ H : Hp, SqL K H a (ns.map V.int) → sp [.ref a] H (fun v _ => v = .bl true) fun _ _ _ => False)
    (hX : ∀ H e s', CX [] H s (fun _ _ _ => False) e s' → False) :
    codeAny (model P w) callerA (.call (.ref fa) ⟨[.ref a], []⟩) (fun r s' => r = .ok (.ret (.bool true)) ∧ OldK s.heap s'.heap ∧ s'.os = s.os ∧ AllBare s'.gens) s := by
  have rv := vals_ints hi
  have main : ∀ H : Hp, (∀ b, H b = none ∨ b = a ∧ ∃ o ys, H b = some (.frz o (.lst ys))) → (H a ≠ none → K.lookup a = none) → SqL K H a (ns.map V.int) → HOk P w H s.heap →
      codeAny (model P w) callerA (.call (.ref fa) ⟨[.ref a], []⟩) (fun r s' => r = .ok (.ret (.bool true)) ∧ OldK s.heap s'.heap ∧ s'.os = s.os ∧ AllBare s'.gens) s := fun H hH hK hS hok => by
    have free : ∀ {b : Addr} {o : Obj}, s.heap.get? b = some o → H b = none → (hidT s.heap H).get? b = some o := fun e n => hidT_get e n
    have nsF : ∀ {b : Addr} {m : Str → Option Value}, s.heap.Ns b m → (hidT s.heap H).Ns b m := by
      rintro b m ⟨o, es, ep, e, d, r⟩
      refine ⟨o, es, ep, free e ?_, d, r⟩
      rcases hH b with z | ⟨rfl, _⟩
      · exact z
      · have q : some _ = some o := ha.symm.trans e
        cases q
        cases d
    have KB : K.In (hidT s.heap H) := fun b o e => free (KX b o e) (by
      rcases hH b with z | ⟨rfl, o1, ys, z⟩
      · exact z
      · rw [hK (by rw [z]; exact fun q => nomatch q)] at e
        cases e)
    obtain ⟨mc, l1, l2⟩ := hL
    have M : Mod K mg (hidT s.heap H) := ⟨KB, nsF hM, ⟨mb, nsF hB, hbb⟩, mc, nsF l1, l2⟩
    have e0 : Env0 P w K mg (hidT s.heap H) callerA [] s H := ⟨rfl, M, fun b o e => of_hidT e, Nat.le_of_eq (hidT_size _ _), trivial, fun b q => absurd q List.not_mem_nil, hok, .of_eq hg⟩
    refine codeAny_mono ((F _ KB (nsF hM)).go callerA [] s H ⟨[.ref a], []⟩ [.ref a] [.ref a] _ _ rfl hr e0 (hb s (.ref a)) (.cons rfl .nil) (hsp H hS)) ?_
    rintro (er | fl) s1 z
    · exact (hX H er s1 z).elim
    cases fl with
    | ret u =>
      obtain ⟨v, H1, os, bare, un, ok1, r1, q⟩ := z
      have q1 : v = .bl true := q
      subst q1
      have q2 : u = Value.bool true := r1
      subst q2
      refine ⟨rfl, OldK.of_keep fun b o e => ?_, os, bare⟩
      rcases hH b with z | ⟨_, o1, ys, z⟩
      · exact un.keep b o e z (fun y => absurd y List.not_mem_nil) fun y => absurd y List.not_mem_nil
      · have g1 := (hok b _ z).1
        have g2 := (ok1 b _ (un.frzs b o1 _ z)).1
        rw [g2, ← g1, e]
    | _ => exact z.elim
  cases hk : K.lookup a with
  | some o =>
    have e : some _ = some o := ha.symm.trans (KX a o hk)
    cases e
    exact main (fun _ => none) (fun _ => .inl rfl) (fun z => absurd rfl z) (.inr ⟨_, us.toArray, _, hk, rfl, rfl, rfl, by rw [List.size_toArray, hi.length]; exact hl, by simpa using rv⟩) fun _ _ z => nomatch z
  | none =>
    refine main (fun b => if b = a then some (.frz { cls := .type "list", data := .seq us.toArray } (.lst (ns.map V.int))) else none) (fun b => ?_) (fun _ => hk) (.inl (.inr ⟨{ cls := .type "list", data := .seq us.toArray }, if_pos rfl⟩)) fun b y z => ?_
    · by_cases q : b = a
      · exact .inr ⟨q, _, _, if_pos q⟩
      · exact .inl (if_neg q)
    · dsimp only at z
      by_cases q : b = a
      · subst q
        rw [if_pos rfl] at z
        cases z
        exact ⟨ha, by rw [List.length_map]; exact hl, us, _, rv, ha⟩
      · rw [if_neg q] at z
        cases z
/-- the goal that k_head leaves, from promises that are kept where no text is being made -/
theorem top_ofG {l : PySem.W.OpenLaw} {n k : Nat} {q : Program} {loose : List Str} {XP : (Str → Option Value) → Heap → Prop} {YP : World → Heap → Prop} {d : DefRec} {K : Params → PySem.W.Frag} {φ : FT} {x : Str}
    (hn : l.most = some n) (hn2 : n ≤ sizeLine) (hdf : d.params.defaults = []) (hr : Room k callerA) (hY : ∀ (w : World) (h : Heap), YP w h → (K w.params).In h)
    (F : ∀ (w : World) (mg : Str → Option Value) (fa : Addr) (h : Heap), (K w.params).In h → h.Ns mainGlobals mg → mg d.name = some (.ref fa) →
      ∃ fd : FuncData, (∀ (s : Shared) (u : Value), BindsTo s fd ⟨[u], []⟩ [(x, u)]) ∧ ∀ base : Heap, (K w.params).In base → base.Ns mainGlobals mg → FnG l.prog w (K w.params) mg base CX0 k fa fd [x] (spT (K w.params) 1 φ))
    (hφ : ∀ ns : List Int, ns.length ≤ n → φ [.d (.lst (ns.map D.int))] (fun t _ => t = .bl true) fun _ _ => False) : PySem.W.WalkO q loose XP YP l.row.toRowW d [] (fun f vs => PySem.call f vs) := by
  refine Att.attach_call hn hdf fun w s₀ s mg mb fa o pm cd dc a us ns G Y ho hd hcd hm hobj hi hlen hg => ?_
  obtain ⟨fd, hb, hF⟩ := F w mg fa _ (hY w _ Y) G.T.g hm
  exact top_callG (hY w _ Y) G.T.g G.T.b G.T.builtins G.T.nolimit hg hobj hi (Nat.le_trans hlen hn2) hr hF hb (fun H hS => start_of hS (hφ ns hlen)) fun _ _ _ z => z
end WC

/-! WLo: stable trees as plain data: str, ==, in, sorted. -/
namespace WC
open PySem PySem.Spec PyProof.Rows L2
mutual
def py : D → PyData
  | .fl (.int i) => .int i
  | .fl (.bl b) => .bool b
  | .fl (.str z) => .str z
  | .lst ds => .list (pyL ds)
  | .tup ds => .tuple (pyL ds)
  | _ => .none
def pyL : List D → List PyData
  | [] => []
  | d :: ds => py d :: pyL ds
end
mutual
def okP : D → Bool
  | .fl (.int _) => true
  | .fl (.bl _) => true
  | .fl (.str _) => true
  | .fl .non => true
  | .lst ds => okL ds
  | .tup ds => okL ds
  | _ => false
def okL : List D → Bool
  | [] => true
  | d :: ds => okP d && okL ds
end
section
variable {K : PySem.W.Frag} {H : Hp}
mutual
theorem den_dp : ∀ (d : D) (v : V), okP d = true → Den K H d v → Dp K H v (py d)
  | .fl x, v, h, hd => by
    simp only [Den] at hd
    subst hd
    cases v with
    | int i => simp only [py]; exact .int i
    | bl b => simp only [py]; exact .bl b
    | str z => simp only [py]; exact .str z
    | non => simp only [py]; exact .non
    | _ => simp [okP] at h
  | .lst ds, v, h, hd => by
    simp only [Den] at hd
    simp only [okP] at h
    obtain ⟨p, vs, rfl, hS, hL⟩ := hd
    simp only [py]
    exact .lst hS (denL_dp ds vs h hL)
  | .tup ds, v, h, hd => by
    simp only [Den] at hd
    simp only [okP] at h
    obtain ⟨p, vs, rfl, hS, hL⟩ := hd
    simp only [py]
    exact .tup hS.sq (denL_dp ds vs h hL)
  | .any, _, h, _ => by simp [okP] at h
  | .dK _ _, _, h, _ => by simp [okP] at h
  | .dT _ _, _, h, _ => by simp [okP] at h
  | .ins _ _ _, _, h, _ => by simp [okP] at h
theorem denL_dp : ∀ (ds : List D) (vs : List V), okL ds = true → DenL K H ds vs → DpAll K H vs (pyL ds)
  | [], [], _, _ => by simp only [pyL]; exact .nil
  | [], _ :: _, _, h => by simp only [DenL] at h
  | _ :: _, [], _, h => by simp only [DenL] at h
  | d :: ds, v :: vs, h, hd => by
    simp only [DenL] at hd
    simp only [okL, Bool.and_eq_true] at h
    simp only [pyL]
    exact .cons (den_dp d v h.1 hd.1) (denL_dp ds vs h.2 hd.2)
end
end
theorem pyL_map : ∀ ds : List D, pyL ds = ds.map py
  | [] => by simp only [pyL, List.map_nil]
  | d :: ds => by simp only [pyL, List.map_cons, pyL_map ds]
theorem okL_all : ∀ ds : List D, okL ds = ds.all okP
  | [] => by simp only [okL, List.all_nil]
  | d :: ds => by simp only [okL, List.all_cons, okL_all ds]
/-- plain data of a depth -/
structure Sh (n : Nat) (d : D) : Prop where
  ok : okP d = true
  lay : (py d).canLay0 = true
  dep : (py d).depth ≤ n
theorem depL_le {n : Nat} : ∀ {ds : List PyData}, (∀ d ∈ ds, d.depth ≤ n) → PyData.depthAll ds ≤ n
  | [], _ => by simp only [PyData.depthAll]; exact Nat.zero_le _
  | d :: ds, h => by
    simp only [PyData.depthAll]
    exact Nat.max_le.mpr ⟨h d (List.mem_cons_self ..), depL_le fun x hx => h x (List.mem_cons_of_mem _ hx)⟩
theorem layL_all : ∀ {ds : List PyData}, (∀ d ∈ ds, d.canLay0 = true) → PyData.canLayAll0 ds = true
  | [], _ => by simp only [PyData.canLayAll0]
  | d :: ds, h => by
    simp only [PyData.canLayAll0, Bool.and_eq_true]
    exact ⟨h d (List.mem_cons_self ..), layL_all fun x hx => h x (List.mem_cons_of_mem _ hx)⟩
theorem Sh.int {n : Nat} {i : Int} : Sh n (.int i) := ⟨by simp only [okP], by simp only [py, PyData.canLay0], by simp only [py, PyData.depth]; exact Nat.zero_le _⟩
theorem Sh.bl {n : Nat} {b : Bool} : Sh n (.fl (.bl b)) := ⟨by simp only [okP], by simp only [py, PyData.canLay0], by simp only [py, PyData.depth]; exact Nat.zero_le _⟩
theorem Sh.non {n : Nat} : Sh n (.fl .non) := ⟨by simp only [okP], by simp only [py, PyData.canLay0], by simp only [py, PyData.depth]; exact Nat.zero_le _⟩
theorem Sh.str {n : Nat} {z : Str} (h : PyData.strOk z = true) : Sh n (.fl (.str z)) := ⟨by simp only [okP], by simp only [py, PyData.canLay0]; exact h, by simp only [py, PyData.depth]; exact Nat.zero_le _⟩
theorem Sh.lst {n : Nat} {ds : List D} (h : ∀ d ∈ ds, Sh n d) : Sh (n + 1) (.lst ds) := by
  refine ⟨?_, ?_, ?_⟩
  · simp only [okP]
    rw [okL_all, List.all_eq_true]
    exact fun d hd => (h d hd).ok
  · simp only [py, PyData.canLay0]
    rw [pyL_map]
    refine layL_all fun x hx => ?_
    obtain ⟨d, hd, rfl⟩ := List.mem_map.mp hx
    exact (h d hd).lay
  · simp only [py, PyData.depth]
    rw [pyL_map]
    refine Nat.succ_le_succ (depL_le fun x hx => ?_)
    obtain ⟨d, hd, rfl⟩ := List.mem_map.mp hx
    exact (h d hd).dep
theorem Sh.tup {n : Nat} {ds : List D} (h : ∀ d ∈ ds, Sh n d) : Sh (n + 1) (.tup ds) := by
  refine ⟨?_, ?_, ?_⟩
  · simp only [okP]
    rw [okL_all, List.all_eq_true]
    exact fun d hd => (h d hd).ok
  · simp only [py, PyData.canLay0]
    rw [pyL_map]
    refine layL_all fun x hx => ?_
    obtain ⟨d, hd, rfl⟩ := List.mem_map.mp hx
    exact (h d hd).lay
  · simp only [py, PyData.depth]
    rw [pyL_map]
    refine Nat.succ_le_succ (depL_le fun x hx => ?_)
    obtain ⟨d, hd, rfl⟩ := List.mem_map.mp hx
    exact (h d hd).dep
theorem Sh.mono {n m : Nat} {d : D} (h : Sh n d) (l : n ≤ m) : Sh m d := ⟨h.ok, h.lay, Nat.le_trans h.dep l⟩
theorem Sh.shaped {d : D} (h : Sh 64 d) : SeqAt.shaped (py d) = true := by
  unfold SeqAt.shaped
  rw [h.lay, decide_eq_true h.dep]
  rfl
/-! ### == -/
@[irreducible] def eqD (a b : D) : Bool := PyData.eqv (py a) (py b)
theorem eqD_eq {a b : D} : eqD a b = PyData.eqv (py a) (py b) := by unfold eqD; rfl
/-- of flat values -/
@[irreducible] def eqB (x y : V) : Bool := decide (x = y)
theorem eqB_eq {x y : V} : eqB x y = decide (x = y) := by unfold eqB; rfl
@[irreducible] def inB (ds : List D) (a : D) : Bool := ds.any fun z => eqD z a
theorem inB_eq {ds : List D} {a : D} : inB ds a = ds.any fun z => eqD z a := by unfold inB; rfl
mutual
theorem eqD_refl : ∀ d : D, PyData.eqv (py d) (py d) = true
  | .fl x => by
    cases x <;> simp [py, PyData.eqv]
  | .lst ds => by
    simp only [py, PyData.eqv]
    exact eqL_refl ds
  | .tup ds => by
    simp only [py, PyData.eqv]
    exact eqL_refl ds
  | .any => by simp only [py, PyData.eqv]
  | .dK _ _ => by simp only [py, PyData.eqv]
  | .dT _ _ => by simp only [py, PyData.eqv]
  | .ins _ _ _ => by simp only [py, PyData.eqv]
theorem eqL_refl : ∀ ds : List D, PyData.eqvAll (pyL ds) (pyL ds) = true
  | [] => by simp only [pyL, PyData.eqvAll]
  | d :: ds => by
    simp only [pyL, PyData.eqvAll, Bool.and_eq_true]
    exact ⟨eqD_refl d, eqL_refl ds⟩
end
theorem eqD_self (d : D) : eqD d d = true := eqD_eq.trans (eqD_refl d)
/-- two values compared -/
def eqK (a b : D) (k : Bool → Prop) : Prop := match a, b with
  | .fl x, .fl y => ifT (scal x y) (k (eqB x y))
  | a, b => Sh 64 a ∧ Sh 64 b ∧ k (eqD a b)
def fEqX : F2 := fun t u k => eqK (frz t) (frz u) fun b => k (.bl b)
def fNeX : F2 := fun t u k => eqK (frz t) (frz u) fun b => k (.bl (!b))
theorem frz_fl {t : T} {x : V} (h : frz t = .fl x) : t = .d (.fl x) := by
  cases t with
  | d d =>
    rw [frz] at h
    rw [h]
  | gone => rw [frz] at h; cases h
  | tup _ => rw [frz] at h; cases h
  | lst _ => rw [frz] at h; cases h
  | dK _ _ => rw [frz] at h; cases h
  | dT _ _ => rw [frz] at h; cases h
  | ins _ _ _ => rw [frz] at h; cases h
section
variable {K : PySem.W.Frag} {X : Cx} {W : WX}
theorem eqK_get {ta tb : T} {x y : V} {H : Hp} {A : Asn} {k : Bool → Prop} (w : Wd H (Rep K ta x • Rep K tb y • A)) (h : eqK (frz ta) (frz tb) k) :
    (scal x y = true ∧ k (decide (x = y))) ∨ (∃ d e, Dp K H x d ∧ Dp K H y e ∧ SeqAt.shaped d = true ∧ SeqAt.shaped e = true ∧ k (PyData.eqv d e)) := by
  have da := wd_den w
  have db := wd_den w.drop
  unfold eqK at h
  split at h
  · rename_i p q e1 e2
    obtain ⟨s, h2⟩ := ifT_get h
    rw [e1] at da
    rw [e2] at db
    simp only [Den] at da db
    subst da
    subst db
    rw [eqB_eq] at h2
    exact .inl ⟨s, h2⟩
  · obtain ⟨s1, s2, h2⟩ := h
    rw [eqD_eq] at h2
    exact .inr ⟨_, _, den_dp _ _ s1.ok da, den_dp _ _ s2.ok db, s1.shaped, s2.shaped, h2⟩
theorem rb_eqX : RB K fEqX (fun x y H Q => rEq x y H Q ∨ rEqD K x y H Q) := fun ta tb x y H A k Q w h ok => by
  rcases eqK_get w h with ⟨s, h2⟩ | ⟨d, e, d1, d2, s1, s2, h2⟩
  · exact .inl ⟨s, ok _ _ _ h2 (wd_ofl w.drop.drop)⟩
  · exact .inr ⟨d, e, d1, d2, s1, s2, ok _ _ _ h2 (wd_ofl w.drop.drop)⟩
theorem rb_neX : RB K fNeX (fun x y H Q => rNe x y H Q ∨ rNeD K x y H Q) := fun ta tb x y H A k Q w h ok => by
  rcases eqK_get w h with ⟨s, h2⟩ | ⟨d, e, d1, d2, s1, s2, h2⟩
  · exact .inl ⟨s, ok _ _ _ h2 (wd_ofl w.drop.drop)⟩
  · exact .inr ⟨d, e, d1, d2, s1, s2, ok _ _ _ h2 (wd_ofl w.drop.drop)⟩
theorem op_eqX (hu : X.A.units + 64 < cLine) : OpR X (compareOp .Eq) (fun x y H Q => rEq x y H Q ∨ rEqD X.K x y H Q) := op_eq.or (op_eqD hu)
theorem op_neX (hu : X.A.units + 64 < cLine) : OpR X (compareOp .NotEq) (fun x y H Q => rNe x y H Q ∨ rNeD X.K x y H Q) := op_ne.or (op_neD hu)
/-! ### in -/
def inK (a b : D) (k : Bool → Prop) : Prop := match b with
  | .fl (.str z) => (match a with
    | .fl (.str s) => (match s.cps.toList with
      | [c] => k (decide (c ∈ z.cps.toList))
      | _ => False)
    | _ => False)
  | .lst ds => Sh 60 a ∧ Sh 60 (.lst ds) ∧ k (inB ds a)
  | _ => False
def fInX : F2 := fun t u k => inK (frz t) (frz u) fun b => k (.bl b)
def fNiX : F2 := fun t u k => inK (frz t) (frz u) fun b => k (.bl (!b))
theorem inK_get {ta tb : T} {x y : V} {H : Hp} {A : Asn} {k : Bool → Prop} (w : Wd H (Rep K ta x • Rep K tb y • A)) (h : inK (frz ta) (frz tb) k) :
    (∃ (c : Nat) (z : Str), x = .str ⟨#[c]⟩ ∧ y = .str z ∧ k (decide (c ∈ z.cps.toList))) ∨ (∃ d ds, Dp K H x d ∧ Dp K H y (.list ds) ∧ SeqAt.shaped d = true ∧ SeqAt.shaped (.list ds) = true ∧ k (ds.any fun z => PyData.eqv z d)) := by
  have da := wd_den w
  have db := wd_den w.drop
  unfold inK at h
  split at h
  · rename_i z e2
    split at h
    · rename_i s e1
      rw [e1] at da
      rw [e2] at db
      simp only [Den] at da db
      subst da
      subst db
      split at h
      · rename_i c e
        exact .inl ⟨c, z, by rw [str_of1 e], rfl, h⟩
      · exact h.elim
    · exact h.elim
  · rename_i ds e2
    obtain ⟨s1, s2, h2⟩ := h
    have s3 := s2.ok
    have s4 := (s2.mono (show 60 ≤ 64 by decide)).shaped
    rw [e2] at db
    have db2 := den_dp _ _ s3 db
    simp only [py] at db2 s4
    refine .inr ⟨_, _, den_dp _ _ s1.ok da, db2, (s1.mono (by decide)).shaped, s4, ?_⟩
    rw [pyL_map, List.any_map]
    rw [inB_eq] at h2
    have e3 : (fun z => eqD z (frz ta)) = ((fun z => PyData.eqv z (py (frz ta))) ∘ py) := funext fun z => eqD_eq
    rw [e3] at h2
    exact h2
  · exact h.elim
theorem rb_inX : RB K fInX (fun x y H Q => (∃ (c : Nat) (z : Str), x = .str ⟨#[c]⟩ ∧ y = .str z ∧ Q (.bl (decide (c ∈ z.cps.toList))) H) ∨ rInD K x y H Q) := fun ta tb x y H A k Q w h ok => by
  rcases inK_get w h with ⟨c, z, e1, e2, h2⟩ | ⟨d, ds, d1, d2, s1, s2, h2⟩
  · exact .inl ⟨c, z, e1, e2, ok _ _ _ h2 (wd_ofl w.drop.drop)⟩
  · exact .inr ⟨d, ds, d1, d2, s1, s2, ok _ _ _ h2 (wd_ofl w.drop.drop)⟩
theorem rb_niX : RB K fNiX (fun x y H Q => (∃ (c : Nat) (z : Str), x = .str ⟨#[c]⟩ ∧ y = .str z ∧ Q (.bl (!decide (c ∈ z.cps.toList))) H) ∨ rNotInD K x y H Q) := fun ta tb x y H A k Q w h ok => by
  rcases inK_get w h with ⟨c, z, e1, e2, h2⟩ | ⟨d, ds, d1, d2, s1, s2, h2⟩
  · exact .inl ⟨c, z, e1, e2, ok _ _ _ h2 (wd_ofl w.drop.drop)⟩
  · exact .inr ⟨d, ds, d1, d2, s1, s2, ok _ _ _ h2 (wd_ofl w.drop.drop)⟩
theorem op_inX (hu : X.A.units + 65 < cLine) : OpR X (compareOp .In) (fun x y H Q => (∃ (c : Nat) (z : Str), x = .str ⟨#[c]⟩ ∧ y = .str z ∧ Q (.bl (decide (c ∈ z.cps.toList))) H) ∨ rInD X.K x y H Q) := op_in_sign.or (op_inD hu)
theorem op_niX (hu : X.A.units + 65 < cLine) : OpR X (compareOp .NotIn) (fun x y H Q => (∃ (c : Nat) (z : Str), x = .str ⟨#[c]⟩ ∧ y = .str z ∧ Q (.bl (!decide (c ∈ z.cps.toList))) H) ∨ rNotInD X.K x y H Q) := op_notIn_sign.or (op_notInD hu)
end
/-! ### tests of it -/
section
variable {A B : Prop} {x y : V} {a b : D} {i j : Int}
theorem wh_eq (h1 : x = y → A) (h2 : ¬ x = y → B) : wh (eqB x y) A B := by
  rw [eqB_eq]
  exact wh_d h1 h2
theorem wh_ne (h1 : ¬ x = y → A) (h2 : x = y → B) : wh (!eqB x y) A B := by
  rw [eqB_eq]
  exact wh_nd h1 h2
theorem wh_Ei (h1 : i = j → A) (h2 : ¬ i = j → B) : wh (eqB (.int i) (.int j)) A B := wh_eq (fun h => h1 (V.int.inj h)) fun h => h2 fun e => h (by rw [e])
theorem wh_Ni (h1 : ¬ i = j → A) (h2 : i = j → B) : wh (!eqB (.int i) (.int j)) A B := wh_ne (fun h => h1 fun e => h (by rw [e])) fun h => h2 (V.int.inj h)
theorem wh_eqD (h1 : eqD a b = true → A) (h2 : eqD a b = false → B) : wh (eqD a b) A B := wh_of h1 h2
theorem wh_neD (h1 : eqD a b = false → A) (h2 : eqD a b = true → B) : wh (!eqD a b) A B := wh_of (fun h => h1 (by simpa using h)) fun h => h2 (by simpa using h)
/-- the same on both sides -/
theorem wh_neS (h2 : B) : wh (!eqB x x) A B := wh_ne (fun h => absurd rfl h) fun _ => h2
theorem wh_neDS (h2 : B) : wh (!eqD a a) A B := wh_neD (fun h => by rw [eqD_self] at h; cases h) fun _ => h2
end
/-! ### plain data of a size, and its text -/
structure Pr (w n : Nat) (d : D) : Prop where
  sh : Sh n d
  wt : (py d).weight ≤ w
  itn : (py d).intsShort 13 = true
  shw : (py d).showable = true
section
variable {w n : Nat}
theorem Pr.mono {w' n' : Nat} {d : D} (h : Pr w n d) (h1 : w ≤ w') (h2 : n ≤ n') : Pr w' n' d := ⟨h.sh.mono h2, Nat.le_trans h.wt h1, h.itn, h.shw⟩
theorem log_40 {i : Int} (h : i.natAbs < 10 ^ 12) : i.natAbs.log2 < 40 := by
  rcases Nat.eq_zero_or_pos i.natAbs with z | z
  · rw [z]; decide
  · exact (Nat.log2_lt (by omega)).mpr (Nat.lt_trans h (by decide))
theorem Pr.int {i : Int} (h : i.natAbs < 10 ^ 12) : Pr 40 n (.int i) := by
  have l := log_40 h
  refine ⟨.int, ?_, ?_, ?_⟩
  · simp only [py, PyData.weight]
    split <;> omega
  · simp only [py, PyData.intsShort]
    exact decide_eq_true (PyData.shown_int_le h)
  · simp only [py, PyData.showable]
    exact decide_eq_true (by omega)
theorem Pr.bl {b : Bool} : Pr 0 n (.fl (.bl b)) := ⟨.bl, by simp [py, PyData.weight], by simp [py, PyData.intsShort], by simp [py, PyData.showable]⟩
theorem Pr.non : Pr 0 n (.fl .non) := ⟨.non, by simp [py, PyData.weight], by simp [py, PyData.intsShort], by simp [py, PyData.showable]⟩
theorem Pr.str {z : Str} (h : PyData.strOk z = true) : Pr z.length n (.fl (.str z)) := ⟨.str h, by simp only [py, PyData.weight]; exact Nat.le_refl _, by simp [py, PyData.intsShort], by simp [py, PyData.showable]⟩
theorem Pr.all {ds : List D} (h : ∀ d ∈ ds, Pr w n d) : PyData.weightAll (pyL ds) ≤ ds.length * (w + 1) ∧ PyData.intsShortAll 13 (pyL ds) = true ∧ PyData.showableAll (pyL ds) = true := by
  induction ds with
  | nil => simp [pyL, PyData.weightAll, PyData.intsShortAll, PyData.showableAll]
  | cons d ds ih =>
    obtain ⟨a, b, c⟩ := ih fun x hx => h x (List.mem_cons_of_mem _ hx)
    have hd := h d (List.mem_cons_self ..)
    simp only [pyL, PyData.weightAll, PyData.intsShortAll, PyData.showableAll, Bool.and_eq_true, List.length_cons]
    refine ⟨?_, ⟨hd.itn, b⟩, hd.shw, c⟩
    have := hd.wt
    rw [Nat.add_mul]
    omega
theorem Pr.lst {ds : List D} {l : Nat} (h : ∀ d ∈ ds, Pr w n d) (hl : ds.length ≤ l) : Pr (l * (w + 1)) (n + 1) (.lst ds) := by
  obtain ⟨a, b, c⟩ := Pr.all h
  refine ⟨.lst fun d hd => (h d hd).sh, ?_, ?_, ?_⟩
  · simp only [py, PyData.weight]
    exact Nat.le_trans a (Nat.mul_le_mul_right _ hl)
  · simp only [py, PyData.intsShort]
    exact b
  · simp only [py, PyData.showable]
    exact c
theorem Pr.tup {ds : List D} {l : Nat} (h : ∀ d ∈ ds, Pr w n d) (hl : ds.length ≤ l) : Pr (l * (w + 1)) (n + 1) (.tup ds) := by
  obtain ⟨a, b, c⟩ := Pr.all h
  refine ⟨.tup fun d hd => (h d hd).sh, ?_, ?_, ?_⟩
  · simp only [py, PyData.weight]
    exact Nat.le_trans a (Nat.mul_le_mul_right _ hl)
  · simp only [py, PyData.intsShort]
    exact b
  · simp only [py, PyData.showable]
    exact c
end
def Shw (d : D) : Prop := Pr 1048576 50 d
theorem Shw.fits {d : D} (h : Shw d) : (py d).shown.length ≤ sizeLine := by
  have hl : PyData.layable0 (py d) = true := by
    unfold PyData.layable0
    rw [h.sh.lay, decide_eq_true (Nat.le_trans h.sh.dep (by decide)), decide_eq_true (show (py d).weight ≤ 2 ^ 20 from h.wt)]
    rfl
  exact Nat.le_trans (PyData.shown_le_of_layable0 hl h.itn) (by decide)
def strK (d : D) (k : Str → Prop) : Prop := match d with
  | .fl (.str z) => k z
  | d => Shw d ∧ k (py d).shown
def notStr : D → Bool
  | .fl (.str _) => false
  | _ => true
theorem strK_of {d : D} {k : Str → Prop} (n : notStr d = true) (s : Shw d) (h : k (py d).shown) : strK d k := by
  unfold strK
  split
  · cases n
  · exact ⟨s, h⟩
def fStr (t : T) (k : T → Prop) : Prop := strK (frz t) fun z => k (.str z)
section
variable {K : PySem.W.Frag} {X : Cx}
def rStrD (K : PySem.W.Frag) (x : V) (H : Hp) (Q : VK) : Prop := (∃ i, x = .int i ∧ i.natAbs.log2 < 1920 ∧ Q (.str (toString i)) H) ∨ (∃ z, x = .str z ∧ Q (.str z) H) ∨ (x = .non ∧ Q (.str "None") H) ∨ (∃ b, x = .bl b ∧ Q (.str (if b then "True" else "False")) H) ∨
  ∃ a d, x = V.ref a ∧ Dp K H (.ref a) d ∧ d.showable = true ∧ d.hasDict = false ∧ d.depth ≤ 50 ∧ d.shown.length ≤ sizeLine ∧ Q (.str d.shown) H
theorem cr_str (hG : X.A.guards = some []) (hu : X.A.units + 64 < cLine) : CallR X (.type "str") (fun xs H Q => ∃ x, xs = [x] ∧ rStrD X.K x H Q) := fun pins s σ H xs us Q I rv ⟨x, e, h⟩ => by
  subst e
  rcases h with ⟨i, rfl, hl, q⟩ | ⟨z, rfl, q⟩ | ⟨rfl, q⟩ | ⟨b, rfl, q⟩ | ⟨a, d, rfl, q⟩
  · exact call_str_int pins s σ H _ us Q I rv ⟨i, rfl, hl, q⟩
  · exact SkE.call_str_str pins s σ H _ us Q I rv ⟨z, rfl, q⟩
  · obtain ⟨u, rfl, r⟩ := vals1 rv
    cases (show u = Value.none from r)
    exact PySem.P.str_of_none ⟨.str _, H, I.tok _, ⟨_, rfl⟩, q⟩
  · obtain ⟨u, rfl, r⟩ := vals1 rv
    cases (show u = Value.bool b from r)
    exact PySem.P.str_of_bool ⟨.str _, H, I.tok _, ⟨_, rfl⟩, q⟩
  · exact call_strD hG hu pins s σ H _ us Q I rv ⟨a, d, rfl, q⟩
theorem rc_str : RC K (fc1 fStr) (fun xs H Q => ∃ x, xs = [x] ∧ rStrD K x H Q) := rc1 fun t x H A k Q w h ok => by
  have hd := wd_den w
  unfold fStr strK at h
  split at h
  · rename_i z e
    rw [e] at hd
    simp only [Den] at hd
    exact .inr (.inl ⟨z, hd, ok _ _ _ h (wd_ofl w.drop)⟩)
  · obtain ⟨s, h2⟩ := h
    have so := s.sh.ok
    have dp := den_dp _ _ so hd
    have fin : ∀ p, x = V.ref p → rStrD K x H Q := fun p e => by
      subst e
      exact .inr (.inr (.inr (.inr ⟨p, _, rfl, dp, s.shw, PyData.hasDict_of_canLay _ s.sh.lay, s.sh.dep, s.fits, ok _ _ _ h2 (wd_ofl w.drop)⟩)))
    cases e : frz t with
    | lst ds =>
      rw [e] at hd
      simp only [Den] at hd
      obtain ⟨p, vs, e2, _⟩ := hd
      exact fin p e2
    | tup ds =>
      rw [e] at hd
      simp only [Den] at hd
      obtain ⟨p, vs, e2, _⟩ := hd
      exact fin p e2
    | fl v =>
      rw [e] at hd h2 so s
      simp only [Den] at hd
      subst hd
      have sw := s.shw
      cases x with
      | int i =>
        simp only [py, PyData.shown] at h2
        simp only [py, PyData.showable, decide_eq_true_eq] at sw
        exact .inl ⟨i, rfl, sw, ok _ _ _ h2 (wd_ofl w.drop)⟩
      | str z =>
        rename_i hne
        exact absurd e (hne z)
      | non =>
        simp only [py, PyData.shown] at h2
        exact .inr (.inr (.inl ⟨rfl, ok _ _ _ h2 (wd_ofl w.drop)⟩))
      | bl b =>
        simp only [py, PyData.shown] at h2
        exact .inr (.inr (.inr (.inl ⟨b, rfl, ok _ _ _ h2 (wd_ofl w.drop)⟩)))
      | byt _ => simp [okP] at so
      | ref _ => simp [okP] at so
      | flt _ => simp [okP] at so
      | ty _ => simp [okP] at so
    | any => rw [e] at so; simp [okP] at so
    | dK _ _ => rw [e] at so; simp [okP] at so
    | dT _ _ => rw [e] at so; simp [okP] at so
    | ins _ _ _ => rw [e] at so; simp [okP] at so
end
theorem u65 {k : Nat} {A : Around} (hr : Room k A) : A.units + 65 < cLine := by
  have := hr.un
  omega
end WC

/-! WLp: sorted, the greatest and least of a list, a list repeated, keywords of built-ins. -/
namespace WC
open PySem PySem.Spec PyProof.Rows L2
/-! ### ints of a list -/
def intsT : List T → Option (List Int)
  | [] => some []
  | .d (.fl (.int i)) :: ts => (intsT ts).map (i :: ·)
  | _ :: _ => none
theorem intsT_map : ∀ xs : List Int, intsT (xs.map T.int) = some xs
  | [] => rfl
  | x :: xs => by simp only [List.map_cons, intsT, intsT_map xs, Option.map_some]
theorem intsT_eq : ∀ {ts : List T} {xs : List Int}, intsT ts = some xs → ts = xs.map T.int
  | [], xs, h => by
    simp only [intsT, Option.some.injEq] at h
    subst h
    rfl
  | .d (.fl (.int i)) :: ts, xs, h => by
    simp only [intsT, Option.map_eq_some_iff] at h
    obtain ⟨ys, h1, rfl⟩ := h
    rw [List.map_cons, ← intsT_eq h1]
  | .d (.fl .non) :: _, _, h => by simp [intsT] at h
  | .d (.fl (.bl _)) :: _, _, h => by simp [intsT] at h
  | .d (.fl (.str _)) :: _, _, h => by simp [intsT] at h
  | .d (.fl (.byt _)) :: _, _, h => by simp [intsT] at h
  | .d (.fl (.ref _)) :: _, _, h => by simp [intsT] at h
  | .d .any :: _, _, h => by simp [intsT] at h
  | .d (.tup _) :: _, _, h => by simp [intsT] at h
  | .d (.lst _) :: _, _, h => by simp [intsT] at h
  | .d (.dK _ _) :: _, _, h => by simp [intsT] at h
  | .d (.dT _ _) :: _, _, h => by simp [intsT] at h
  | .d (.ins _ _ _) :: _, _, h => by simp [intsT] at h
  | .gone :: _, _, h => by simp [intsT] at h
  | .tup _ :: _, _, h => by simp [intsT] at h
  | .lst _ :: _, _, h => by simp [intsT] at h
  | .dK _ _ :: _, _, h => by simp [intsT] at h
  | .dT _ _ :: _, _, h => by simp [intsT] at h
  | .ins _ _ _ :: _, _, h => by simp [intsT] at h
/-- the ints that they are -/
def asIs (ts : List T) (k : List Int → Prop) : Prop := ∃ xs : List Int, ts = xs.map T.int ∧ k xs
section
variable {K : PySem.W.Frag} {X : Cx} {W : WX}
theorem RepL_ints {H : Hp} {A : Asn} : ∀ {xs : List Int} {vs : List V}, Wd H (RepL K (xs.map T.int) vs • A) → vs = xs.map V.int
  | [], [], _ => rfl
  | [], _ :: _, w => by have := w.lenL; simp at this
  | _ :: _, [], w => by have := w.lenL; simp at this
  | y :: ys, v :: vs, w => by
    rw [List.map_cons, RepL_cons] at w
    have w1 := w.eq (star_assoc _ _ _)
    have e1 := wd_fl w1
    have e2 := RepL_ints w1.drop
    rw [List.map_cons, e1, e2]
/-! ### max(xs), min(xs) of ints -/
def fMaxL (t : T) (k : T → Prop) : Prop := itL t fun ts => asIs ts fun ns => 0 < ns.length ∧ ∀ m, m ∈ ns → (∀ y, y ∈ ns → y ≤ m) → k (.int m)
def fMinL (t : T) (k : T → Prop) : Prop := itL t fun ts => asIs ts fun ns => 0 < ns.length ∧ ∀ m, m ∈ ns → (∀ y, y ∈ ns → m ≤ y) → k (.int m)
def fSum (t : T) (k : T → Prop) : Prop := itL t fun ts => asIs ts fun ns => k (.int ns.sum)
theorem rc_maxL : RC K (fc1 fMaxL) (rMax K) := fun ts vs H A k Q w h ok => by
  unfold fc1 at h
  split at h
  · rename_i t
    have hl := w.lenL
    match vs, hl with
    | [v], _ =>
      rw [RepL_cons, RepL_nil, star_emp] at w
      obtain ⟨p, ts, vs, Sp, rfl, ⟨ns, e, h0, h2⟩, l1, s1, w1⟩ := wd_unseq h w
      subst e
      have e2 := RepL_ints (w1.eq (star_left _ _ _))
      subst e2
      exact ⟨p, ns, rfl, s1 H _ w1, h0, fun m m1 m2 => ok _ _ _ (h2 m m1 m2) (wd_ofl w1.drop.drop)⟩
  · exact h.elim
theorem rc_minL : RC K (fc1 fMinL) (rMin K) := fun ts vs H A k Q w h ok => by
  unfold fc1 at h
  split at h
  · rename_i t
    have hl := w.lenL
    match vs, hl with
    | [v], _ =>
      rw [RepL_cons, RepL_nil, star_emp] at w
      obtain ⟨p, ts, vs, Sp, rfl, ⟨ns, e, h0, h2⟩, l1, s1, w1⟩ := wd_unseq h w
      subst e
      have e2 := RepL_ints (w1.eq (star_left _ _ _))
      subst e2
      exact ⟨p, ns, rfl, s1 H _ w1, h0, fun m m1 m2 => ok _ _ _ (h2 m m1 m2) (wd_ofl w1.drop.drop)⟩
  · exact h.elim
theorem rc_sum : RC K (fc1 fSum) (rSum K) := fun ts vs H A k Q w h ok => by
  unfold fc1 at h
  split at h
  · rename_i t
    have hl := w.lenL
    match vs, hl with
    | [v], _ =>
      rw [RepL_cons, RepL_nil, star_emp] at w
      obtain ⟨p, ts, vs, Sp, rfl, ⟨ns, e, h2⟩, l1, s1, w1⟩ := wd_unseq h w
      subst e
      have e2 := RepL_ints (w1.eq (star_left _ _ _))
      subst e2
      exact ⟨p, ns, rfl, s1 H _ w1, ok _ _ _ h2 (wd_ofl w1.drop.drop)⟩
  · exact h.elim
end
end WC
namespace WC
open PySem PySem.Spec PyProof.Rows L2
section
variable {K : PySem.W.Frag} {X : Cx} {W : WX} {a d e : Expr} {es : List Expr} {α β : SE} {g gk : SA} {pos p1 kp : Pos} {x : Str}
/-! ### max(xs, default=d) -/
def rMaxDf (K : PySem.W.Frag) (vs zs : List V) (H : Hp) (Q : VK) : Prop := ∃ (p : Addr) (ns : List Int) (z : V), vs = [V.ref p] ∧ zs = [z] ∧ SqL K H p (ns.map V.int) ∧ (ns = [] → Q z H) ∧ ∀ m, m ∈ ns → (∀ y, y ∈ ns → y ≤ m) → Q (.int m) H
theorem reads_ints {h : Heap} : ∀ {ns : List Int} {us : List Value}, Vals (ns.map V.int) us → ReadsAll h us (ns.map PyData.int) []
  | [], [], _ => .nil
  | n :: ns, u :: us, r => by
    cases r with
    | cons r1 r2 =>
      obtain ⟨t, rfl⟩ := r1
      exact ReadsAll.cons (as := []) (bs := []) (Reads.int n t) (reads_ints r2)
  | [], _ :: _, r => by cases r
  | _ :: _, [], r => by cases r
theorem depth_ints : ∀ ns : List Int, PyData.depthAll (ns.map PyData.int) = 0
  | [] => by simp only [List.map_nil, PyData.depthAll]
  | n :: ns => by simp only [List.map_cons, PyData.depthAll, PyData.depth, depth_ints ns, Nat.max_self]
theorem foldl_max : ∀ (ns : List Int) (n : Int), ns.foldl max n ∈ n :: ns ∧ ∀ y ∈ n :: ns, y ≤ ns.foldl max n
  | [], n => ⟨List.mem_cons_self .., fun y hy => by simp at hy; simp [hy]⟩
  | m :: ns, n => by
    obtain ⟨h1, h2⟩ := foldl_max ns (max n m)
    show ns.foldl max (max n m) ∈ n :: m :: ns ∧ ∀ y ∈ n :: m :: ns, y ≤ ns.foldl max (max n m)
    have hm := h2 _ (List.mem_cons_self ..)
    refine ⟨?_, fun y hy => ?_⟩
    · rcases List.mem_cons.mp h1 with z | z
      · rw [z]
        rcases (show max n m = n ∨ max n m = m by omega) with q | q
        · rw [q]; exact List.mem_cons_self ..
        · rw [q]; exact List.mem_cons_of_mem _ (List.mem_cons_self ..)
      · exact List.mem_cons_of_mem _ (List.mem_cons_of_mem _ z)
    · rcases List.mem_cons.mp hy with z | z
      · subst z; omega
      · rcases List.mem_cons.mp z with z | z
        · subst z; omega
        · exact h2 _ (List.mem_cons_of_mem _ z)
theorem cr_maxDf (hc : X.calm = true) (hu : X.A.units + 64 < cLine) : CallRK X (.builtin "max") ["default"] (rMaxDf X.K) := by
  intro pins s σ H vs zs us ws Q I r rz ⟨p, ns, z0, e1, e2, hs, q0, q1⟩
  subst e1
  subst e2
  obtain ⟨its, rv, hl, _⟩ := I.list hs
  rw [Vals.ref1 r]
  cases rz with
  | @cons _ zv _ ws' h1 h2 =>
    cases h2
    refine PySem.W.max_list_default (I.ok.hd hc) hl.isList (reads_ints (h := s.heap) (by simpa using rv)) ?_ ?_ ?_ ?_
    · refine ⟨fun x hx y hy => ?_, fun x hx => ?_⟩
      · obtain ⟨i, _, rfl⟩ := List.mem_map.mp hx
        obtain ⟨j, _, rfl⟩ := List.mem_map.mp hy
        simp only [PySem.W.alike]
      · obtain ⟨i, _, rfl⟩ := List.mem_map.mp hx
        intro z
        cases z
    · rw [depth_ints]
      omega
    · intro z h' tk hk
      have z' : ns = [] := by simpa using z
      exact ⟨z0, H, I.kept hk, h1, q0 z'⟩
    · intro y ys i v h' tk bs e hv rd hk
      cases ns with
      | nil => cases e
      | cons n ns =>
        rw [List.map_cons] at e
        cases e
        rw [PySem.W.maxD_ints] at rd
        obtain ⟨m1, m2⟩ := foldl_max ns n
        cases rd with
        | int _ t => exact ⟨.int _, H, I.kept hk, ⟨t, rfl⟩, q1 _ m1 m2⟩
end
end WC
namespace WC
open PySem PySem.Spec PyProof.Rows L2
section
variable {K : PySem.W.Frag} {X : Cx} {W : WX} {a d e : Expr} {es : List Expr} {kws : List Keyword} {α β : SE} {g gk : SA} {pos p1 kp : Pos} {x : Str} {nm : Option Str} {id : String} {ks : List Str} {r : List V → List V → Hp → VK → Prop}
/-! ### built-ins with keywords -/
def PDK (X : Cx) (W : WX) (kws : List Keyword) (γ : SA) : Prop := PK X kws (tA X.K W γ)
theorem pk_weak {t t' : TA} (h : PK X kws t) (f : ∀ σ H Q, t' σ H Q → t σ H Q) : PK X kws t' := ⟨fun pos pins s σ H Q I q => h.run pos pins s σ H Q I (f _ _ _ q)⟩
theorem d_knil : PDK X W [] sNil := pk_weak pk_nil fun σ H Q ⟨env, R, k, e, w, h, ok, er⟩ => ok [] env [] H h (by
  show Wd H (emp • EnvA X.K env σ • R)
  rw [emp_star]
  exact w)
theorem d_kcons (ha : PD X W a α) (hr : PDK X W kws g) : PDK X W (⟨nm, a, kp⟩ :: kws) (sCons α g) :=
  pk_weak (pk_cons ha hr) fun σ H Q ⟨env, R, k, e, w, h, ok, er⟩ => ⟨env, R, _, e, w, h, fun t env1 x H1 k1 w1 =>
    ⟨env1, Rep X.K t x • R, _, e, w1.eq (by ac_rfl), k1, fun as env2 vs H2 k2 w2 => ok _ env2 (x :: vs) H2 k2 (by
      show Wd H2 ((Rep X.K t x • ArgA X.K σ as vs) • EnvA X.K env2 σ • R)
      exact w2.eq (by ac_rfl)), er.more⟩, er⟩
abbrev FCK := List T → List T → (T → Prop) → Prop
def RCK (K : PySem.W.Frag) (f : FCK) (r : List V → List V → Hp → VK → Prop) : Prop := ∀ (ts us : List T) (vs zs : List V) (H : Hp) (A : Asn) (k : T → Prop) (Q : VK), Wd H (RepL K ts vs • RepL K us zs • A) → f ts us k → (∀ t v H', k t → Wd H' (Rep K t v • A) → Q v H') → r vs zs H Q
def sCK (f : FCK) (g gk : SA) : SE := fun env k e => g env (fun as env1 => allV as fun ts => gk env1 (fun bs env2 => allV bs fun us => f ts us fun t => k t env2) e) e
theorem d_callBK {f : FCK} (hc : CallRK X (.builtin id) ks r) (hr : RCK X.K f r) (hg : Gl X x) (hm : X.mg x = none) (hv : bootBuiltins x = some (.builtin id)) (ha : PDA X W (a :: es) g) (hk : PDK X W kws gk) (hn : x ≠ "__name__" := by decide) (hdb : (x == ("__debug__" : Str)) = false := by decide)
    (he : backTo pos (starEach (a :: es) X.env) = (false, eval a X.env) :: backTo pos (starEach es X.env) := by rfl) (hpl : (backTo pos (starEach (a :: es) X.env)).any (·.1) = false := by rfl)
    (hall : (backToKw pos (keywordEach kws X.env)).all (·.1.isSome) = true := by rfl) (hnone : (backToKw pos (keywordEach kws X.env)).any (·.1.isNone) = false := by rfl) (hks : (backToKw pos (keywordEach kws X.env)).filterMap (·.1) = ks := by rfl) :
    PD X W (.Call (.Name x p1) (a :: es) kws pos) (sCK f g gk) :=
  pe_weak (pe_callBK hc hg hm hv ha hk hn hdb he hpl hall hnone hks) fun σ H Q ⟨env, R, k, e, w, q, ok, er⟩ => ⟨env, R, _, e, w, q, fun as env1 vs H1 k1 w1 => by
    obtain ⟨ts, k1, e1⟩ := allV_get (σ := σ) (X := X) k1
    rw [e1] at w1
    refine ⟨env1, RepL X.K ts vs • R, _, e, w1.eq (by ac_rfl), k1, fun bs env2 zs H2 k2 w2 => ?_, er.more⟩
    obtain ⟨us, k2, e2⟩ := allV_get (σ := σ) (X := X) k2
    rw [e2] at w2
    exact hr ts us vs zs H2 (EnvA X.K env2 σ • R) _ Q (w2.eq (by ac_rfl)) k2 fun t v H3 k3 w3 => ok t env2 v H3 k3 w3, er⟩
def fMaxDf : FCK := fun ts us k => match ts, us with
  | [t], [u] => itL t fun ts => asIs ts fun ns => (ns = [] → k u) ∧ ∀ m, m ∈ ns → (∀ y, y ∈ ns → y ≤ m) → k (.int m)
  | _, _ => False
theorem rc_maxDf : RCK K fMaxDf (rMaxDf K) := fun ts us vs zs H A k Q w h ok => by
  unfold fMaxDf at h
  split at h
  · rename_i t u
    have l1 := w.lenL
    have w' : Wd H (RepL K [u] zs • (RepL K [t] vs • A)) := w.eq (by ac_rfl)
    have l2 := w'.lenL
    match vs, l1, zs, l2 with
    | [v], _, [z], _ =>
      simp only [RepL_cons, RepL_nil, star_emp] at w
      obtain ⟨p, ts, vs, Sp, rfl, ⟨ns, e, h0, h2⟩, l1, s1, w1⟩ := wd_unseq h w
      subst e
      have e2 := RepL_ints (w1.eq (star_left _ _ _))
      subst e2
      exact ⟨p, ns, z, rfl, rfl, s1 H _ w1, fun hn => ok _ _ _ (h0 hn) w1.drop.drop, fun m m1 m2 => ok _ _ _ (h2 m m1 m2) (wd_ofl w1.drop.drop.drop)⟩
  · exact h.elim
end
end WC
namespace WC
open PySem PySem.Spec PyProof.Rows L2
section
variable {K : PySem.W.Frag} {X : Cx}
/-! ### sorted(xs), xs of any plain data -/
def leD (a b : D) : Bool := PySem.W.dataLe false py a b
structure Srt (ds : List D) : Prop where
  ok : okL ds = true
  al : PySem.W.AllAlike (ds.map py)
  so : PySem.W.Sortable (ds.map py)
  ln : ds.length ≤ 1000000
  dp : ∀ d ∈ ds, (py d).depth ≤ 50
def sortT (ts : List T) : List T := ts.mergeSort fun a b => leD (frz a) (frz b)
def fSorted (t : T) (k : T → Prop) : Prop := itL t fun ts => Srt (frzL ts) ∧ k (.lst (sortT ts))
def rSortD (K : PySem.W.Frag) (vs : List V) (H : Hp) (Q : VK) : Prop := ∃ (a : Addr) (xs : List V) (ds : List PyData), vs = [V.ref a] ∧ SqL K H a xs ∧ DpAll K H xs ds ∧ PySem.W.AllAlike ds ∧ PySem.W.Sortable ds ∧ ds.length ≤ sizeLine ∧ (∀ d ∈ ds, d.depth ≤ 50) ∧
  ∀ p, H p = none → Q (.ref p) (upd H p (.lst (((xs.zip ds).mergeSort (PySem.W.dataLe false Prod.snd)).map Prod.fst)))
theorem each_dp {pins : List (Addr × Obj)} {σ : L2.St} {H : Hp} {s : Shared} (I : Inv X pins σ H s) : ∀ {xs : List V} {ds : List PyData} {us : List Value}, DpAll X.K H xs ds → Vals xs us →
    PySem.W.EachIs (fun u (b : V × PyData) => RelV b.1 u) us (xs.zip ds) ∧ PySem.W.EachIs (fun u (b : V × PyData) => ∃ as, Reads s.heap u b.2 as) us (xs.zip ds) ∧ (xs.zip ds).map Prod.snd = ds ∧ xs.length = ds.length
  | [], [], us, .nil, r => by
    cases r
    exact ⟨.nil, .nil, rfl, rfl⟩
  | x :: xs, d :: ds, us, .cons h1 h2, r => by
    cases r with
    | cons r1 r2 =>
      obtain ⟨a1, a2, a3, a4⟩ := each_dp I h2 r2
      refine ⟨.cons r1 a1, .cons (Dp.reads I d x _ h1 r1) a2, ?_, ?_⟩
      · rw [List.zip_cons_cons, List.map_cons, a3]
      · rw [List.length_cons, List.length_cons, a4]
theorem vals_each : ∀ {us : List Value} {bs : List (V × PyData)}, PySem.W.EachIs (fun u (b : V × PyData) => RelV b.1 u) us bs → Vals (bs.map Prod.fst) us
  | _, _, .nil => .nil
  | _, _, .cons h t => .cons h (vals_each t)
theorem cr_sortD (hu : X.A.units + 64 < cLine) : CallR X (.builtin "sorted") (rSortD X.K) := by
  intro pins s σ H vs us Q I r ⟨a, xs, ds, e, hs, hd, al, so, hl, dp, q⟩
  subst e
  obtain ⟨its, rv, hp, hz⟩ := I.list hs
  rw [Vals.ref1 r]
  obtain ⟨b1, b2, b3, b4⟩ := each_dp I hd rv
  have hlen : (xs.zip ds).length = ds.length := by rw [List.length_zip, b4, Nat.min_self]
  refine PySem.W.sorted_data (enc := Prod.snd) hp.isList b1 b2 (by rw [b3]; exact al) (by rw [b3]; exact so) (by rw [hlen]; exact hl) (fun b hb => ?_) fun out ho eo => ?_
  · have := dp b.2 (by rw [← b3]; exact List.mem_map.mpr ⟨b, hb, rfl⟩)
    omega
  · obtain ⟨ep, he⟩ := PyProof.Rows.sortedAll_at s.heap its out.toArray
    refine ⟨.ref _, upd H (s.heap.objs.size + 1) (.lst _), I.laid (t' := s.toks) (fun _ _ => PyProof.Rows.sortedAll_old) (Nat.le_succ _) ⟨?_, out, ep, vals_each eo, he⟩, rfl, q _ (I.hok.fresh (Nat.le_succ _))⟩
    rw [List.length_map, List.length_mergeSort, hlen]
    exact hl
theorem RepL_perm {ps qs : List (T × V)} (h : ps.Perm qs) : RepL K (ps.map Prod.fst) (ps.map Prod.snd) = RepL K (qs.map Prod.fst) (qs.map Prod.snd) := by
  induction h with
  | nil => rfl
  | cons x _ ih => simp only [List.map_cons, RepL_cons, ih]
  | swap x y l =>
    simp only [List.map_cons, RepL_cons]
    exact star_left _ _ _
  | trans _ _ h1 h2 => exact h1.trans h2
theorem rc_sortD : RC K (fc1 fSorted) (rSortD K) := fun ts vs H A k Q w h ok => by
  unfold fc1 at h
  split at h
  · rename_i t
    have hl := w.lenL
    match vs, hl with
    | [v], _ =>
      rw [RepL_cons, RepL_nil, star_emp] at w
      obtain ⟨p, ts, vs, Sp, rfl, ⟨so, h2⟩, l1, s1, w1⟩ := wd_unseq h w
      have w2 : Wd H (RepL K ts vs • (Sp • A)) := w1.eq (star_left _ _ _)
      have dn := wd_denL w2
      have dp := denL_dp _ _ so.ok dn
      rw [pyL_map] at dp
      refine ⟨p, vs, _, rfl, s1 H _ w1, dp, so.al, so.so, ?_, ?_, fun q hq => ok _ _ _ h2 ?_⟩
      · rw [List.length_map]
        exact Nat.le_trans so.ln (by decide)
      · intro d hd
        obtain ⟨x, hx, rfl⟩ := List.mem_map.mp hd
        exact so.dp x hx
      · -- pairs of a tree and its value, sorted by the tree's data
        let ps := ts.zip vs
        let le2 : T × V → T × V → Bool := fun a b => leD (frz a.1) (frz b.1)
        have e1 : (ps.mergeSort le2).map Prod.fst = sortT ts := by
          unfold sortT
          rw [List.map_mergeSort (s := fun a b => leD (frz a) (frz b)) (fun a _ b _ => rfl)]
          rw [List.map_fst_zip (by omega)]
        have e0 : vs.zip ((frzL ts).map py) = ps.map fun z => (z.2, py (frz z.1)) := by
          rw [frzL_map, List.map_map]
          show vs.zip (ts.map (py ∘ frz)) = (ts.zip vs).map _
          clear w w1 w2 dn dp h2 so s1 ok e1 le2 ps
          induction ts generalizing vs with
          | nil =>
            cases vs with
            | nil => rfl
            | cons _ _ => simp at l1
          | cons t ts ih =>
            cases vs with
            | nil => simp at l1
            | cons v vs => 
              simp only [List.map_cons, List.zip_cons_cons, Function.comp]
              exact congrArg _ (ih vs (by simpa using l1))
        have e2 : ((vs.zip ((frzL ts).map py)).mergeSort (PySem.W.dataLe false Prod.snd)).map Prod.fst = (ps.mergeSort le2).map Prod.snd := by
          rw [e0]
          have e5 : (ps.mergeSort le2).map (fun z => (z.2, py (frz z.1))) = (ps.map fun z => (z.2, py (frz z.1))).mergeSort (PySem.W.dataLe false Prod.snd) := List.map_mergeSort fun a _ b _ => rfl
          rw [← e5, List.map_map]
          rfl
        rw [e2]
        have w3 : Wd H (RepL K ((ps.mergeSort le2).map Prod.fst) ((ps.mergeSort le2).map Prod.snd) • (Sp • A)) := by
          rw [RepL_perm (List.mergeSort_perm ps le2), List.map_fst_zip (by omega), List.map_snd_zip (by omega)]
          exact w2
        rw [e1] at w3
        have w4 := w3.alloc (o := .lst ((ps.mergeSort le2).map Prod.snd)) hq fun xs z => by cases z
        have w5 : Wd (upd H q (.lst ((ps.mergeSort le2).map Prod.snd))) (Sp • (pt q (.lst ((ps.mergeSort le2).map Prod.snd)) • RepL K (sortT ts) ((ps.mergeSort le2).map Prod.snd) • A)) := w4.eq (by ac_rfl)
        exact wd_lst w5.drop
  · exact h.elim
end
end WC

/-! WLq: what lies in a list that lies in a slot: methods, stores; ranges with a step; a list repeated. -/
namespace WC
open PySem PySem.Spec PyProof.Rows L2
section
variable {K : PySem.W.Frag}
/-- an item's own list, out of its place -/
theorem wd_item {H : Hp} {env : Nv} {σ : L2.St} {R : Asn} {i m : Nat} {ts us : List T} (w : Wd H (EnvA K env σ • R)) (h : slot env i = .lst ts) (hu : ts[m]? = some (.lst us)) :
    ∃ p q vs xs, σ[i]? = some (some (.ref p)) ∧ ts.length = vs.length ∧ vs[m]? = some (.ref q) ∧ H p = some (.lst vs) ∧ H q = some (.lst xs) ∧
      Wd H (EnvA K (env.set i .gone) σ • (pt q (.lst xs) • RepL K us xs • pt p (.lst vs) • RepL K (ts.set m .gone) vs • R)) ∧
      ∀ env2 t H' R', slot env2 i = .gone → i < env2.length → Wd H' (Rep K t (.ref q) • pt p (.lst vs) • RepL K (ts.set m .gone) vs • EnvA K env2 σ • R') → Wd H' (EnvA K (env2.set i (.lst (ts.set m t))) σ • R') := by
  obtain ⟨p, vs, hp, w1, _⟩ := wd_slotL w h
  have hl : ts.length = vs.length := w1.drop.lenL
  have hm : m < ts.length := (List.getElem?_eq_some_iff.mp hu).1
  have hv : vs[m]? = some vs[m] := List.getElem?_eq_getElem (by omega)
  have gp := w1.get
  rw [RepL_take hu hv] at w1
  have w2 : Wd H (Rep K (.lst us) vs[m] • (pt p (.lst vs) • RepL K (ts.set m .gone) vs • EnvA K (env.set i .gone) σ • R)) := w1.eq (by ac_rfl)
  obtain ⟨q, xs, e, w3⟩ := wd_unlst w2
  rw [e] at hv
  refine ⟨p, q, vs, xs, hp, hl, hv, gp, w3.get, w3.eq (by ac_rfl), fun env2 t H' R' hg hi w4 => ?_⟩
  rw [EnvA_back hp hi, set_gone_id hg]
  have hs : vs.set m (.ref q) = vs := by
    obtain ⟨h1, h2⟩ := List.getElem?_eq_some_iff.mp hv
    rw [← h2]
    exact List.set_getElem_self h1
  have e2 : RepL K (ts.set m t) vs = Rep K t (.ref q) • RepL K (ts.set m .gone) vs := by
    have := RepL_put (K := K) (ts := ts) (vs := vs) (t := t) (v := .ref q) hm (by omega)
    rwa [hs] at this
  have w5 : Wd H' (pt p (.lst vs) • RepL K (ts.set m t) vs • EnvA K env2 σ • R') := by
    rw [e2]
    exact w4.eq (by ac_rfl)
  exact (wd_lst w5).eq (by ac_rfl)
end
section
variable {K : PySem.W.Frag} {X : Cx} {W : WX} {B : Nat → Bool} {a b o tg : Expr} {es : List Expr} {α β : SE} {γ : SA} {pos apos p1 : Pos} {id : String} {name : Str}
def isGone : T → Bool
  | .gone => true
  | _ => false
theorem isGone_eq {t : T} (h : isGone t = true) : t = .gone := by
  cases t <;> first | rfl | cases h
/-- xs[j].m(..), xs the list in a slot, its item a list -/
def sMethP (i : Nat) (β : SE) (f : FM) (γ : SA) : SE := fun env k e => asL (slot env i) fun _ => β env (fun tj env1 => asI tj fun j => asL (slot env1 i) fun ts => asN (ixN ts.length j) fun m => asO ts[m]? fun u => asL u fun us =>
  γ (env1.set i .gone) (fun as env2 => allV as fun zs => ifT (isGone (slot env2 i)) (f us zs fun t us' => force (env2.set i (.lst (ts.set m (.lst us')))) (k t))) (fun _ _ => False)) e
theorem methP_of {i : Nat} {f : FM} {r : V → List V → Hp → VK → Prop} {ta : TA} (hr : RM X.K f r) {σ : L2.St} {H : Hp} {Q : VK} (hta : ∀ σ H Q, tA X.K W γ σ H Q → ta σ H Q) (h : tE X.K W (sMethP i β f γ) σ H Q) :
    tBM X.K "list" r (tOp (rIx X.K) (tVar i) (tE X.K W β)) ta σ H Q := by
  obtain ⟨env, R, k, e, w, h, ok, er⟩ := h
  obtain ⟨ts0, e0, h⟩ := asL_get h
  obtain ⟨p, vs0, hp, _, _⟩ := wd_slotL w e0
  refine ⟨.ref p, hp, env, R, _, e, w, h, fun tj env1 y H1 k1 w1 => ?_, er⟩
  obtain ⟨j, rfl, k1⟩ := asI_get k1
  obtain ⟨ts, e1, k1⟩ := asL_get k1
  obtain ⟨m, em, k1⟩ := asN_get k1
  obtain ⟨u, hu, k1⟩ := asO_get k1
  obtain ⟨us, rfl, k1⟩ := asL_get k1
  obtain rfl := wd_fl w1
  obtain ⟨p', q, vs, xs, hp', hl, hv, gp, gq, w2, back⟩ := wd_item w1.drop e1 hu
  rw [hp] at hp'
  cases hp'
  refine .inl ⟨p, vs, j, .ref q, rfl, rfl, SqL.of gp, ?_, .inl ⟨rfl, xs, SqL.of gq⟩, hta _ _ _ ⟨env1.set i .gone, _, _, _, w2, k1, fun as env2 ws H2 k2 w3 => ?_, ErE.no⟩⟩
  · unfold atI
    rw [← hl, em]
    exact hv
  obtain ⟨zs, k2, e2⟩ := allV_get (σ := σ) (X := X) k2
  obtain ⟨hg, k2⟩ := ifT_get k2
  have hg := isGone_eq hg
  rw [e2] at w3
  have hlen : i < env2.length := by
    have w4 : Wd H2 (EnvA X.K env2 σ • (RepL X.K zs ws • (pt q (.lst xs) • RepL X.K us xs • pt p (.lst vs) • RepL X.K (ts.set m .gone) vs • R))) := w3.eq (by ac_rfl)
    rw [w4.len]
    exact (List.getElem?_eq_some_iff.mp hp).1
  refine hr us zs q xs ws H2 (pt p (.lst vs) • RepL X.K (ts.set m .gone) vs • EnvA X.K env2 σ • R) _ Q (w3.eq (by ac_rfl)) k2 fun t us' v xs' H3 k3 w4 => ok _ _ _ _ (force_mp k3) ?_
  have w5 : Wd H3 (Rep X.K (.lst us') (.ref q) • pt p (.lst vs) • RepL X.K (ts.set m .gone) vs • EnvA X.K env2 σ • (Rep X.K t v • R)) := wd_lst (w4.eq (by ac_rfl))
  exact (back env2 (.lst us') H3 (Rep X.K t v • R) hg hlen w5).eq (by ac_rfl)
theorem d_methP {i : Nat} {f : FM} {r : V → List V → Hp → VK → Prop} (hr : RM X.K f r) (pa : PlainAttrs "list") (slt : Slot "list" name id) (hty : typeOf (.builtin id) = pure (.type "method_descriptor")) (hm : MtR X id r) (ho : PE X o (tVar i)) (hb : PD X W b β) (ha : PDA X W (a :: es) γ) (hpl : PlainIx b := by exact fun _ _ => rfl)
    (hbase : attributeBase (.Subscript o b p1) name X.env (eval (.Subscript o b p1) X.env) = eval (.Subscript o b p1) X.env := by rfl)
    (hfew : ((backTo pos (starEach (a :: es) X.env)).all (fun x => !x.1) && (backToKw pos (keywordEach [] X.env)).all (fun x => x.1.isSome)
      && decide ((a :: es).length + ([] : List Keyword).length + (if ([] : List Keyword).isEmpty then 0 else 1) < 30)) = true := by rfl)
    (hline : (apos.endLine == pos.line) = true := by rfl) (hs : starEach (a :: es) X.env = (false, eval a X.env) :: starEach es X.env := by rfl) (hplain : (backTo pos (starEach es X.env)).any (·.1) = false := by rfl) :
    PD X W (.Call (.Attribute (.Subscript o b p1) name apos) (a :: es) [] pos) (sMethP i β f γ) :=
  pe_weak (pe_bm pa slt hty hm (pe_ix ix_seq ho hb hpl) ha hbase hfew hline hs hplain) fun _ _ _ h => methP_of hr (fun _ _ _ z => z) h
/-- xs[j][l] = v -/
def gSetP (i : Nat) (β β2 : SE) : STG := fun t env k => asL (slot env i) fun _ => β env (fun tj env1 => asI tj fun j => asL (slot env1 i) fun ts => asN (ixN ts.length j) fun m => asO ts[m]? fun u => asL u fun us =>
  β2 (env1.set i .gone) (fun tl env2 => asI tl fun l => ifT (isGone (slot env2 i)) (asN (ixN us.length l) fun n => force (env2.set i (.lst (ts.set m (.lst (us.set n t))))) k)) (fun _ _ => False)) (fun _ _ => False)
theorem d_gSetP {i : Nat} (h : PG X tg (gSub (tOp (rIx X.K) (tVar i) (tE X.K (fun _ _ _ _ => False) β)) (tE X.K (fun _ _ _ _ => False) α) rSetL)) : PDG X B tg (gSetP i β α) :=
  pg_weak h fun v σ H Q ⟨t, env, R, k, w, h, ok⟩ => by
    have w0 : Wd H (EnvA X.K env σ • (Rep X.K t v • R)) := w.eq (by ac_rfl)
    obtain ⟨ts0, e0, h⟩ := asL_get h
    obtain ⟨p, vs0, hp, _, _⟩ := wd_slotL w0 e0
    refine ⟨.ref p, hp, env, Rep X.K t v • R, _, _, w0, h, fun tj env1 y H1 k1 w1 => ?_, ErE.no⟩
    obtain ⟨j, rfl, k1⟩ := asI_get k1
    obtain ⟨ts, e1, k1⟩ := asL_get k1
    obtain ⟨m, em, k1⟩ := asN_get k1
    obtain ⟨u, hu, k1⟩ := asO_get k1
    obtain ⟨us, rfl, k1⟩ := asL_get k1
    obtain rfl := wd_fl w1
    obtain ⟨p', q, vs, xs, hp', hl, hv, gp, gq, w2, back⟩ := wd_item w1.drop e1 hu
    rw [hp] at hp'
    cases hp'
    refine .inl ⟨p, vs, j, .ref q, rfl, rfl, SqL.of gp, ?_, env1.set i .gone, _, _, _, w2, k1, fun tl env2 y2 H2 k2 w3 => ?_, ErE.no⟩
    · unfold atI
      rw [← hl, em]
      exact hv
    obtain ⟨l, rfl, k2⟩ := asI_get k2
    obtain ⟨hg, k2⟩ := ifT_get k2
    obtain ⟨n, en, k2⟩ := asN_get k2
    have hg := isGone_eq hg
    obtain rfl := wd_fl w3
    have w4 : Wd H2 (pt q (.lst xs) • RepL X.K us xs • (EnvA X.K env2 σ • pt p (.lst vs) • RepL X.K (ts.set m .gone) vs • Rep X.K t v • R)) := w3.drop.eq (by ac_rfl)
    have hlen : i < env2.length := by
      have w5 : Wd H2 (EnvA X.K env2 σ • (pt q (.lst xs) • RepL X.K us xs • pt p (.lst vs) • RepL X.K (ts.set m .gone) vs • Rep X.K t v • R)) := w4.eq (by ac_rfl)
      rw [w5.len]
      exact (List.getElem?_eq_some_iff.mp hp).1
    have hlx : us.length = xs.length := w4.drop.lenL
    refine ⟨q, xs, l, n, rfl, rfl, w4.get, by rw [← hlx]; exact en, ok _ σ _ (force_mp k2) Kp.refl ?_⟩
    have hn := ixN_lt en
    have e3 : RepL X.K us xs = Rep X.K us[n] xs[n] • RepL X.K (us.set n .gone) xs := RepL_take (List.getElem?_eq_getElem hn) (List.getElem?_eq_getElem (by omega))
    have w5 := w4.write (o' := .lst (xs.set n v)) fun xs z => by cases z
    rw [e3] at w5
    have w6 : Wd (upd H2 q (.lst (xs.set n v))) (Rep X.K us[n] xs[n] • (pt q (.lst (xs.set n v)) • (Rep X.K t v • RepL X.K (us.set n .gone) xs) • (pt p (.lst vs) • RepL X.K (ts.set m .gone) vs • EnvA X.K env2 σ • R))) := w5.eq (by ac_rfl)
    have w7 := w6.drop
    rw [← RepL_put hn (by omega)] at w7
    exact back env2 (.lst (us.set n t)) _ R hg hlen (wd_lst w7)
end
end WC
namespace WC
open PySem PySem.Spec PyProof.Rows L2
section
variable {K : PySem.W.Frag} {X : Cx} {W : WX} {a b c tg : Expr} {γ : SA} {pos p1 : Pos}
/-! ### range(i, j, c) -/
def rngC (i c : Int) (n : Nat) : List T := (List.range n).map fun l => .int (i + (l : Nat) * c)
theorem rngC_len (i c : Int) (n : Nat) : (rngC i c n).length = n := by simp [rngC]
theorem rngC_get {i c : Int} {n l : Nat} {t : T} (h : (rngC i c n)[l]? = some t) : l < n ∧ t = .int (i + (l : Nat) * c) := by
  unfold rngC at h
  rw [List.getElem?_map] at h
  obtain ⟨m, hm, rfl⟩ := Option.map_eq_some_iff.mp h
  obtain ⟨h1, h2⟩ := List.getElem?_eq_some_iff.mp hm
  rw [List.length_range] at h1
  rw [List.getElem_range] at h2
  subst h2
  exact ⟨h1, rfl⟩
theorem wk_rangeC {i c : Int} {n : Nat} : Wk K (Itc i c n) (rngC i c n) fun _ => emp where
  go := fun l H A hl w => by rw [rngC_len] at hl; exact hl
  stop := fun H A w => by rw [rngC_len]; exact Nat.le_refl n
  yld := fun l H A x H' t ht w y => by
    obtain ⟨hl, rfl⟩ := rngC_get ht
    obtain ⟨e, hx⟩ := y
    subst e
    subst hx
    exact wd_ofl w
def sIR3 (γ : SA) : SI := fun env k e => γ env (fun as env1 => allV as fun ts => match ts with
  | [t, u, z] => asI t fun i => asI u fun j => asI z fun c => ∃ n, RgC i j c n ∧ k (rngC i c n) env1
  | _ => False) e
theorem d_iR3 (hg : Gl X "range") (hm : X.mg "range" = none) (ha : PDA X W [a, b, c] γ)
    (hs : starEach [a, b, c] X.env = (false, eval a X.env) :: starEach [b, c] X.env := by rfl) (hpl : (backTo pos (starEach [b, c] X.env)).any (·.1) = false := by rfl) :
    PDI X W tg (.Call (.Name "range" p1) [a, b, c] [] pos) (sIR3 γ) :=
  pi_weak (pi_range3 hg hm ha hs hpl) fun σ H R ⟨env, Rf, k, e, w, q, ok, er⟩ => ⟨env, Rf, _, e, w, q, fun as env1 vs H1 k1 w1 => by
    obtain ⟨ts, k1, e2⟩ := allV_get (σ := σ) (X := X) k1
    rw [e2] at w1
    have hl := w1.lenL
    split at k1
    · rename_i t u z
      match vs, hl with
      | [v, v2, v3], _ =>
        obtain ⟨i, rfl, k2⟩ := asI_get k1
        obtain ⟨j, rfl, k3⟩ := asI_get k2
        obtain ⟨c, rfl, n, k4, k5⟩ := asI_get k3
        rw [RepL_cons, RepL_cons, RepL_cons, RepL_nil, star_emp] at w1
        have w2 : Wd H1 (Rep X.K (.int i) v • (Rep X.K (.int j) v2 • (Rep X.K (.int c) v3 • (EnvA X.K env1 σ • Rf)))) := w1.eq (by ac_rfl)
        obtain rfl := wd_fl w2
        obtain rfl := wd_fl w2.drop
        obtain rfl := wd_fl w2.drop.drop
        refine ⟨i, j, c, n, rfl, k4, ok _ env1 _ _ H1 k5 wk_rangeC ?_⟩
        rw [emp_star]
        exact w2.drop.drop.drop
    · exact k1.elim, er⟩
/-! ### a list repeated -/
def repL (n : Nat) (ts : List T) : List T := (List.replicate n ts).flatten
def asDs (ts : List T) (k : List D → Prop) : Prop := match allD ts with
  | some ds => k ds
  | none => False
theorem asDs_get {ts : List T} {k : List D → Prop} (h : asDs ts k) : ∃ ds, ts = ds.map .d ∧ k ds := by
  unfold asDs at h
  split at h
  · rename_i ds e
    exact ⟨ds, allD_eq e, h⟩
  · exact h.elim
/-- of ints; of a list and an int -/
def fMulX : F2 := fun t u k => match t with
  | .d (.fl (.int i)) => asI u fun j => CMul i j ∧ k (.int (i * j))
  | .lst ts => asI u fun j => asDs ts fun _ => (ts.length * j.toNat ≤ 1000000 ∧ -1000000 ≤ j ∧ j ≤ 1000000) ∧ k (.lst (repL j.toNat ts))
  | _ => False
theorem DenL_app {G : Hp} : ∀ {ds es : List D} {vs ws : List V}, DenL K G ds vs → DenL K G es ws → DenL K G (ds ++ es) (vs ++ ws)
  | [], _, [], _, _, h => h
  | [], _, _ :: _, _, h, _ => by simp only [DenL] at h
  | _ :: _, _, [], _, h, _ => by simp only [DenL] at h
  | d :: ds, es, v :: vs, ws, h, h2 => by
    simp only [DenL] at h
    simp only [List.cons_append, DenL]
    exact ⟨h.1, DenL_app h.2 h2⟩
theorem DenL_rep {G : Hp} {ds : List D} {vs : List V} (h : DenL K G ds vs) : ∀ n, DenL K G (List.replicate n ds).flatten (List.replicate n vs).flatten
  | 0 => by simp only [List.replicate_zero, List.flatten_nil, DenL]
  | n + 1 => by
    simp only [List.replicate_succ, List.flatten_cons]
    exact DenL_app h (DenL_rep h n)
theorem repL_map (n : Nat) (ds : List D) : repL n (ds.map .d) = (List.replicate n ds).flatten.map .d := by
  unfold repL
  rw [List.map_flatten, List.map_replicate]
theorem rb_mulX : RB K fMulX (fun x y H Q => (rI CMul fun i j => .int (i * j)) x y H Q ∨ rRep x y H Q) := fun ta tb x y H A k Q w h ok => by
  unfold fMulX at h
  split at h
  · exact .inl (rb_I (g := fun i j => .int (i * j)) _ _ x y H A k Q w h ok)
  · rename_i ts
    obtain ⟨j, rfl, h⟩ := asI_get h
    obtain ⟨ds, rfl, ⟨h1, h2, h3⟩, h4⟩ := asDs_get h
    have w1 : Wd H (Rep K (.int j) y • (Rep K (.lst (ds.map .d)) x • A)) := w.eq (by ac_rfl)
    obtain rfl := wd_fl w1
    obtain ⟨p, vs, rfl, w2⟩ := wd_unlst w1.drop
    have hl := w2.drop.lenL
    refine .inr ⟨p, j, vs, rfl, rfl, w2.get, by omega, by omega, ?_, fun q hq => ok _ _ _ h4 ?_⟩
    · rw [← hl]
      exact Nat.le_trans h1 (by decide)
    have w3 : Wd H (RepL K (repL j.toNat (ds.map .d)) (List.replicate j.toNat vs).flatten • A) := w2.drop.impL fun G h p => by
      rw [repL_map]
      obtain ⟨a1, a2⟩ := RepL_d.mp p
      exact RepL_d.mpr ⟨a1, DenL_rep a2 _⟩
    exact wd_lst (w3.alloc hq fun xs z => by cases z)
  · exact h.elim
theorem op_mulY : OpR X (binaryOp .Mult) (fun x y H Q => (rI CMul fun i j => .int (i * j)) x y H Q ∨ rRep x y H Q) := op_mul.or op_rep
end
end WC

/-! WLr: insert, all, list(range), dicts of pairs. -/
namespace WC
open PySem PySem.Spec PyProof.Rows L2
section
variable {K : PySem.W.Frag} {X : Cx} {W : WX} {a b : Expr} {es : List Expr} {α β : SE} {g : SA} {pos p1 p2 : Pos}
/-! ### xs.insert(i, y) -/
def rInsert : V → List V → Hp → VK → Prop := fun x vs H Q => ∃ (l : Addr) (xs : List V) (i : Int) (y : V), x = .ref l ∧ vs = [.int i, y] ∧ H l = some (.lst xs) ∧ xs.length < sizeLine ∧ 0 ≤ i ∧ i < 2 ^ 63 ∧
    Q .non (upd H l (.lst (xs.take i.toNat ++ [y] ++ xs.drop i.toNat)))
theorem mt_insertR : MtR X "list.insert" rInsert := mt_insert
def fmInsert : FM := fun ts us k => match us with
  | [p, t] => asI p fun i => (ts.length < 1000000 ∧ 0 ≤ i ∧ i ≤ 1000000) ∧ k .non (ts.take i.toNat ++ [t] ++ ts.drop i.toNat)
  | _ => False
theorem rm_insert : RM K fmInsert rInsert := fun ts us q vs ws H A k Q w h ok => by
  unfold fmInsert at h
  split at h
  · rename_i p t
    have w0 : Wd H (RepL K [p, t] ws • (pt q (.lst vs) • RepL K ts vs • A)) := w.eq (by ac_rfl)
    have hl := w0.lenL
    match ws, hl with
    | [v, v2], _ =>
      obtain ⟨i, rfl, ⟨h1, h2, h3⟩, h4⟩ := asI_get h
      rw [RepL_cons, RepL_cons, RepL_nil, star_emp] at w0
      have w1 := w0.eq (star_assoc _ _ _)
      obtain rfl := wd_fl w1
      have w2 : Wd H (pt q (.lst vs) • RepL K ts vs • (Rep K t v2 • A)) := w1.drop.eq (by ac_rfl)
      have l1 : ts.length = vs.length := w2.drop.lenL
      refine ⟨q, vs, i, v2, rfl, rfl, w2.get, Nat.lt_of_lt_of_le (show vs.length < 1000000 by omega) (by decide), h2, by omega, ok _ _ _ (vs.take i.toNat ++ [v2] ++ vs.drop i.toNat) _ h4 ?_⟩
      have w3 := w2.write (o' := .lst (vs.take i.toNat ++ [v2] ++ vs.drop i.toNat)) fun xs z => by cases z
      have e0 : RepL K ts vs = RepL K (ts.take i.toNat) (vs.take i.toNat) • RepL K (ts.drop i.toNat) (vs.drop i.toNat) := by
        rw [← RepL_app (by simp [l1]), List.take_append_drop, List.take_append_drop]
      rw [RepL_app (by simp [l1]), RepL_app (by simp [l1]), RepL_cons, RepL_nil, star_emp, rep_fl, emp_star]
      rw [e0] at w3
      exact w3.eq (by ac_rfl)
  · exact h.elim
/-! ### all(xs), any(xs) -/
def asBs (ts : List T) (k : List Bool → Prop) : Prop := ∃ bs : List Bool, ts = bs.map (fun b => T.bl b) ∧ k bs
theorem RepL_bls {H : Hp} {A : Asn} : ∀ {xs : List Bool} {vs : List V}, Wd H (RepL K (xs.map fun b => T.bl b) vs • A) → vs = xs.map V.bl
  | [], [], _ => rfl
  | [], _ :: _, w => by have := w.lenL; simp at this
  | _ :: _, [], w => by have := w.lenL; simp at this
  | y :: ys, v :: vs, w => by
    rw [List.map_cons, RepL_cons] at w
    have w1 := w.eq (star_assoc _ _ _)
    have e1 := wd_fl w1
    have e2 := RepL_bls w1.drop
    rw [List.map_cons, e1, e2]
def fAll (t : T) (k : T → Prop) : Prop := itL t fun ts => asBs ts fun bs => k (.bl (bs.all id))
def fAny (t : T) (k : T → Prop) : Prop := itL t fun ts => asBs ts fun bs => k (.bl (bs.any id))
theorem rc_all : RC K (fc1 fAll) (rAll K) := fun ts vs H A k Q w h ok => by
  unfold fc1 at h
  split at h
  · rename_i t
    have hl := w.lenL
    match vs, hl with
    | [v], _ =>
      rw [RepL_cons, RepL_nil, star_emp] at w
      obtain ⟨p, ts, vs, Sp, rfl, ⟨bs, e, h2⟩, l1, s1, w1⟩ := wd_unseq h w
      subst e
      have e2 := RepL_bls (w1.eq (star_left _ _ _))
      subst e2
      exact ⟨p, bs, rfl, s1 H _ w1, ok _ _ _ h2 (wd_ofl w1.drop.drop)⟩
  · exact h.elim
theorem rc_any : RC K (fc1 fAny) (rAny K) := fun ts vs H A k Q w h ok => by
  unfold fc1 at h
  split at h
  · rename_i t
    have hl := w.lenL
    match vs, hl with
    | [v], _ =>
      rw [RepL_cons, RepL_nil, star_emp] at w
      obtain ⟨p, ts, vs, Sp, rfl, ⟨bs, e, h2⟩, l1, s1, w1⟩ := wd_unseq h w
      subst e
      have e2 := RepL_bls (w1.eq (star_left _ _ _))
      subst e2
      exact ⟨p, bs, rfl, s1 H _ w1, ok _ _ _ h2 (wd_ofl w1.drop.drop)⟩
  · exact h.elim
/-! ### list(range(n)) -/
def sLR1 (α : SE) : SE := fun env k e => α env (fun t env1 => asI t fun n => (0 ≤ n ∧ n ≤ 1000000) ∧ k (.lst (rngT 0 n.toNat)) env1) e
theorem RepL_rng {H : Hp} {A : Asn} {lo : Int} {n : Nat} (w : Wd H A) : Wd H (RepL K (rngT lo n) ((List.range n).map fun i => V.int (lo + (i : Nat))) • A) := by
  unfold rngT
  generalize List.range n = l
  induction l with
  | nil =>
    rw [List.map_nil, List.map_nil, RepL_nil, emp_star]
    exact w
  | cons x l ih =>
    rw [List.map_cons, List.map_cons, RepL_cons, rep_fl, emp_star]
    exact ih
theorem d_listR1 (hc : X.calm = true) (hl : Gl X "list") (ml : X.mg "list" = none) (hg : Gl X "range") (hm : X.mg "range" = none) (ha : PD X W a α) (na : starEach [a] X.env = (false, eval a X.env) :: starEach [] X.env := by rfl)
    (nb : starEach [.Call (.Name "range" p2) [a] [] p1] X.env = (false, eval (.Call (.Name "range" p2) [a] [] p1) X.env) :: starEach [] X.env := by rfl) {p3 : Pos} :
    PD X W (.Call (.Name "list" p3) [.Call (.Name "range" p2) [a] [] p1] [] pos) (sLR1 α) :=
  pe_weak (pe_listRg hc hl ml (prg_1 hg hm ha na) nb) fun σ H Q ⟨env, R, k, e, w, h, ok, er⟩ => ⟨env, R, _, e, w, h, fun t env1 v H1 k1 w1 => by
    obtain ⟨n, rfl, ⟨h0, h1⟩, h2⟩ := asI_get k1
    obtain rfl := wd_fl w1
    refine ⟨n, rfl, .of_le (by decide) (by omega) (by decide) h0, fun q hq => ok _ _ _ _ h2 ?_⟩
    have w2 := (w1.drop).alloc (o := .lst (rgV 0 n)) hq fun xs z => by cases z
    refine wd_lst (vs := rgV 0 n) ?_
    have w3 := RepL_rng (K := X.K) (lo := 0) (n := n.toNat) w2
    unfold rgV at w3 ⊢
    rw [Int.sub_zero] at w3 ⊢
    exact w3.eq (by ac_rfl), er⟩
end
end WC
namespace WC
open PySem PySem.Spec PyProof.Rows L2
/-! ### dicts: rows of keys and trees -/
section
variable {α : Type}
def putG (l : List (Key × α)) (k : Key) (a : α) : List (Key × α) :=
  if (l.any fun p => decide (p.1 = k)) = true then l.map (fun p => if p.1 = k then (p.1, a) else p) else l ++ [(k, a)]
def getG (l : List (Key × α)) (k : Key) : Option α := (l.find? fun p => decide (p.1 = k)).map (·.2)
def mrgG (l more : List (Key × α)) : List (Key × α) := more.foldl (fun acc p => putG acc p.1 p.2) l
end
def kD : Key → D
  | .inl i => .int i
  | .inr z => .fl (.str z)
section
variable {K : PySem.W.Frag}
/-- the same keys, the values' trees -/
def KD (K : PySem.W.Frag) (G : Hp) : List (Key × D) → List (Key × V) → Prop
  | [], [] => True
  | p :: l, q :: m => p.1 = q.1 ∧ Den K G p.2 q.2 ∧ KD K G l m
  | _, _ => False
variable {G : Hp}
theorem KD.any {k : Key} : ∀ {l : List (Key × D)} {m : List (Key × V)}, KD K G l m → (l.any fun p => decide (p.1 = k)) = m.any fun p => decide (p.1 = k)
  | [], [], _ => rfl
  | [], _ :: _, h => h.elim
  | _ :: _, [], h => h.elim
  | p :: l, q :: m, ⟨e, _, h⟩ => by rw [List.any_cons, List.any_cons, e, KD.any h]
theorem KD.repl {k : Key} {d : D} {v : V} (hd : Den K G d v) : ∀ {l : List (Key × D)} {m : List (Key × V)}, KD K G l m → KD K G (l.map fun p => if p.1 = k then (p.1, d) else p) (m.map fun p => if p.1 = k then (p.1, v) else p)
  | [], [], _ => trivial
  | [], _ :: _, h => h.elim
  | _ :: _, [], h => h.elim
  | p :: l, q :: m, ⟨e, f, h⟩ => by
    refine ⟨?_, ?_, KD.repl hd h⟩
    · show (if p.1 = k then (p.1, d) else p).1 = (if q.1 = k then (q.1, v) else q).1
      split <;> split <;> exact e
    · show Den K G (if p.1 = k then (p.1, d) else p).2 (if q.1 = k then (q.1, v) else q).2
      rw [e]
      split
      · exact hd
      · exact f
theorem KD.app : ∀ {l l2 : List (Key × D)} {m m2 : List (Key × V)}, KD K G l m → KD K G l2 m2 → KD K G (l ++ l2) (m ++ m2)
  | [], _, [], _, _, h => h
  | [], _, _ :: _, _, h, _ => h.elim
  | _ :: _, _, [], _, h, _ => h.elim
  | _ :: _, _, _ :: _, _, ⟨e, f, h⟩, h2 => ⟨e, f, KD.app h h2⟩
theorem KD.put {k : Key} {d : D} {v : V} {l : List (Key × D)} {m : List (Key × V)} (h : KD K G l m) (hd : Den K G d v) : KD K G (putG l k d) (putK m k v) := by
  unfold putG putK
  rw [KD.any h]
  split
  · exact KD.repl hd h
  · exact KD.app h ⟨rfl, hd, trivial⟩
theorem KD.mrg : ∀ {l2 l : List (Key × D)} {m2 m : List (Key × V)}, KD K G l m → KD K G l2 m2 → KD K G (mrgG l l2) (mergeK m m2)
  | [], _, [], _, h, _ => h
  | [], _, _ :: _, _, _, h => h.elim
  | _ :: _, _, [], _, _, h => h.elim
  | p :: l2, l, q :: m2, m, h, ⟨e, f, h2⟩ => by
    show KD K G (mrgG (putG l p.1 p.2) l2) (mergeK (putK m q.1 q.2) m2)
    rw [← e]
    exact KD.mrg (KD.put h f) h2
theorem KD.get {k : Key} {d : D} : ∀ {l : List (Key × D)} {m : List (Key × V)}, KD K G l m → getG l k = some d → ∃ v, valV m k = some v ∧ Den K G d v
  | [], [], _, h => by cases h
  | [], _ :: _, h, _ => h.elim
  | _ :: _, [], h, _ => h.elim
  | p :: l, q :: m, ⟨e, f, h⟩, g => by
    unfold getG at g
    rw [List.find?_cons] at g
    by_cases hk : p.1 = k
    · rw [decide_eq_true hk] at g
      cases g
      exact ⟨q.2, valV_pos (e ▸ hk), f⟩
    · rw [decide_eq_false hk] at g
      obtain ⟨v, h1, h2⟩ := KD.get (l := l) (m := m) h g
      exact ⟨v, by rw [valV_neg (e ▸ hk)]; exact h1, h2⟩
theorem KD.of : ∀ {ks : List Key} {ds : List D} {vs : List V}, ks.length = ds.length → DenL K G ds vs → KD K G (ks.zip ds) (ks.zip vs)
  | [], [], [], _, _ => trivial
  | [], [], _ :: _, _, h => by simp only [DenL] at h
  | [], _ :: _, _, hl, _ => by simp at hl
  | _ :: _, [], _, hl, _ => by simp at hl
  | k :: ks, d :: ds, [], _, h => by simp only [DenL] at h
  | k :: ks, d :: ds, v :: vs, hl, h => by
    simp only [DenL] at h
    exact ⟨rfl, h.1, KD.of (by simpa using hl) h.2⟩
theorem KD.back : ∀ {l : List (Key × D)} {m : List (Key × V)}, KD K G l m → DenL K G (l.map (·.2)) (m.map (·.2)) ∧ l.map (·.1) = m.map (·.1)
  | [], [], _ => ⟨by simp only [List.map_nil, DenL], rfl⟩
  | [], _ :: _, h => h.elim
  | _ :: _, [], h => h.elim
  | p :: l, q :: m, ⟨e, f, h⟩ => by
    obtain ⟨a, b⟩ := KD.back h
    refine ⟨?_, ?_⟩
    · simp only [List.map_cons, DenL]
      exact ⟨f, a⟩
    · rw [List.map_cons, List.map_cons, e, b]
end
section
variable {K : PySem.W.Frag} {X : Cx} {W : WX} {a b o i : Expr} {α β : SE} {pos : Pos}
theorem zip_fs {α β : Type} : ∀ l : List (α × β), (l.map (·.1)).zip (l.map (·.2)) = l
  | [] => rfl
  | p :: l => by rw [List.map_cons, List.map_cons, List.zip_cons_cons, zip_fs l]
theorem wd_dK {H : Hp} {ks : List Key} {ts : List T} {vs : List V} {A : Asn} {p : Addr} (hl : ks.length = ts.length) (w : Wd H (pt p (.dK (ks.zip vs)) • RepL K ts vs • A)) : Wd H (Rep K (.dK ks ts) (.ref p) • A) := by
  have w2 : Wd H (pu (V.ref p = V.ref p ∧ ks.length = ts.length) • pt p (.dK (ks.zip vs)) • RepL K ts vs • A) := Wd.puR ⟨rfl, hl⟩ w
  have e : Rep K (.dK ks ts) (.ref p) = ex fun q => ex fun us => pu (V.ref p = V.ref q ∧ ks.length = ts.length) • pt q (.dK (ks.zip us)) • RepL K ts us := by simp only [Rep]
  rw [e]
  have w3 : Wd H ((pu (V.ref p = V.ref p ∧ ks.length = ts.length) • pt p (.dK (ks.zip vs)) • RepL K ts vs) • A) := w2.eq (by ac_rfl)
  exact w3.impL fun G h z => ⟨p, vs, z⟩
/-- dict of pairs -/
def fDictP (t : T) (k : T → Prop) : Prop := itL t fun ts => ∃ l : List (Key × D), ts = l.map (fun p => .d (.tup [kD p.1, p.2])) ∧ k (.dK ((mrgG [] l).map (·.1)) ((mrgG [] l).map fun p => .d p.2))
theorem den_kD {G : Hp} {k : Key} {v : V} (h : Den K G (kD k) v) : v = kV k := by
  cases k with
  | inl i => simp only [kD, Den] at h; exact h
  | inr z => simp only [kD, Den] at h; exact h
theorem pairs_den {G : Hp} : ∀ {l : List (Key × D)} {vs : List V}, DenL K G (l.map fun p => D.tup [kD p.1, p.2]) vs → ∃ (ps : List Addr) (m : List (Key × V)), vs = ps.map V.ref ∧ Paired (fun p kv => TupA K G p [kV kv.1, kv.2]) ps m ∧ KD K G l m
  | [], [], _ => ⟨[], [], rfl, .nil, trivial⟩
  | [], _ :: _, h => by simp only [List.map_nil, DenL] at h
  | _ :: _, [], h => by simp only [List.map_cons, DenL] at h
  | p :: l, v :: vs, h => by
    simp only [List.map_cons, DenL] at h
    obtain ⟨h1, h2⟩ := h
    obtain ⟨ps, m, rfl, h3, h4⟩ := pairs_den h2
    simp only [Den] at h1
    obtain ⟨q, ws, rfl, hT, hL⟩ := h1
    match ws, hL with
    | [x, y], hL =>
      simp only [DenL] at hL
      refine ⟨q :: ps, (p.1, y) :: m, rfl, .cons ?_ h3, ⟨rfl, hL.2.1, h4⟩⟩
      have e := den_kD hL.1
      subst e
      exact hT
    | [], hL => simp only [DenL] at hL
    | [_], hL => simp only [DenL] at hL; exact hL.2.elim
    | _ :: _ :: _ :: _, hL => simp only [DenL] at hL; exact hL.2.2.elim
theorem rc_dictP : RC K (fc1 fDictP) (fun xs H Q => ∃ (a : Addr) (ps : List Addr) (kvs : List (Key × V)), xs = [.ref a] ∧ SqL K H a (ps.map V.ref) ∧ Paired (fun p kv => SqT K H p [kV kv.1, kv.2]) ps kvs ∧ ∀ p, H p = none → Q (.ref p) (upd H p (.dK (mergeK [] kvs)))) := fun ts vs H A k Q w h ok => by
  unfold fc1 at h
  split at h
  · rename_i t
    have hl := w.lenL
    match vs, hl with
    | [v], _ =>
      rw [RepL_cons, RepL_nil, star_emp] at w
      obtain ⟨p, ts, vs, Sp, rfl, ⟨l, e, h2⟩, l1, s1, w1⟩ := wd_unseq h w
      subst e
      have w2 : Wd H (RepL K ((l.map fun p => D.tup [kD p.1, p.2]).map .d) vs • (Sp • A)) := by
        rw [List.map_map]
        exact w1.eq (star_left _ _ _)
      -- the pairs' trees in the stable part
      obtain ⟨G, h0, a1, a2, a3, a4, g1, g2, sp, pr, pq⟩ := w2
      obtain ⟨e0, dl⟩ := RepL_d.mp pr
      obtain ⟨ps, m, rfl, hp, hk⟩ := pairs_den dl
      have hm : KD K G (mrgG [] l) (mergeK [] m) := KD.mrg trivial hk
      obtain ⟨b1, b2⟩ := KD.back hm
      have w3 : Wd H (RepL K ((mrgG [] l).map fun p => .d p.2) ((mergeK [] m).map (·.2)) • (Sp • A)) := by
        refine ⟨G, h0, a1, a2, a3, a4, g1, g2, sp, ?_, pq⟩
        rw [show ((mrgG [] l).map fun p => T.d p.2) = ((mrgG [] l).map (·.2)).map .d by rw [List.map_map]; rfl]
        exact RepL_d.mpr ⟨e0, b1⟩
      refine ⟨p, ps, m, rfl, s1 H _ w1, ?_, fun q hq => ok _ _ _ h2 ?_⟩
      · clear w1 w3 h2 ok s1 hk hm b1 b2 dl pr l1
        induction hp with
        | nil => exact .nil
        | cons q1 q2 ih => exact .cons (q1.same a1).sq ih
      · have w4 := (w3.eq (star_left _ _ _)).drop.alloc (o := .dK (mergeK [] m)) hq fun xs z => by cases z
        have e5 : ((mrgG [] l).map (·.1)).zip ((mergeK [] m).map (·.2)) = mergeK [] m := by
          rw [b2]
          exact zip_fs _
        have w5 := wd_dK (K := K) (ks := (mrgG [] l).map (·.1)) (ts := (mrgG [] l).map fun p => .d p.2) (vs := (mergeK [] m).map (·.2)) (p := q) (A := A) (H := upd H q (.dK (mergeK [] m))) (by rw [List.length_map, List.length_map])
        rw [e5] at w5
        exact w5 w4
  · exact h.elim
/-! ### d[k], d stable -/
def asKey (t : T) (k : Key → Prop) : Prop := match t with
  | .d (.fl (.int i)) => k (.inl i)
  | .d (.fl (.str z)) => k (.inr z)
  | _ => False
theorem asKey_get {t : T} {k : Key → Prop} (h : asKey t k) : ∃ x, t = .fl (kV x) ∧ k x := by
  unfold asKey at h
  split at h
  · exact ⟨_, rfl, h⟩
  · exact ⟨_, rfl, h⟩
  · exact h.elim
def fDix : F2 := fun t u k => match t with
  | .d (.dK ks ds) => asKey u fun x => asO (getG (ks.zip ds) x) fun d => k (.d d)
  | _ => False
def sDGet (α β : SE) : SE := sBin fDix α β
theorem d_dget (hu : X.A.units + 1 < cLine) (ho : PD X W o α) (hi : PD X W i β) (hs : NoSl i := by exact fun _ _ => rfl) : PD X W (.Subscript o i pos) (sDGet α β) :=
  pe_weak (pe_dget hu ho hi hs) fun σ H Q ⟨env, R, k, e, w, h, ok, er⟩ => ⟨env, R, _, e, w, h, fun t env1 x H1 k1 w1 => by
    refine ⟨env1, Rep X.K t x • R, _, e, w1.eq (by ac_rfl), k1, fun u env2 y H2 k2 w2 => ?_, er.more⟩
    unfold fDix at k2
    split at k2
    · rename_i ks ds
      obtain ⟨z, rfl, k3⟩ := asKey_get k2
      obtain ⟨d, g, k4⟩ := asO_get k3
      obtain rfl := wd_fl w2
      have w3 : Wd H2 (Rep X.K (.d (.dK ks ds)) x • (EnvA X.K env2 σ • R)) := w2.drop.eq (by ac_rfl)
      obtain ⟨G, h0, a1, a2, a3, a4, g1, g2, sp, pr, pq⟩ := w3
      obtain ⟨e0, hd⟩ := kn_den.mp pr
      have hd2 := Den.same a1 _ _ hd
      simp only [Den] at hd
      obtain ⟨p, vs, rfl, hl, hR, hL⟩ := hd
      obtain ⟨v, hv, hdv⟩ := KD.get (KD.of hl hL) g
      have hR2 : Rd H2 p (.dK (ks.zip vs)) := hR.imp (fun q => a1 _ _ q) fun ⟨o1, q⟩ => ⟨o1, a1 _ _ q⟩
      exact ⟨p, v, rfl, .inl ⟨ks.zip vs, z, hR2, rfl, hv.symm⟩, ok _ _ _ _ k4 ⟨G, h0, a1, a2, a3, a4, g1, g2, sp, kn_den.mpr ⟨e0, hdv⟩, pq⟩⟩
    · exact k2.elim, er⟩
end
end WC

/-! WLs: -x, three names at once, a slot frozen behind a statement. -/
namespace WC
open PySem PySem.Spec PyProof.Rows L2
section
variable {K : PySem.W.Frag} {X : Cx} {W : WX} {B : Nat → Bool} {st : Stmt} {a b c : Expr} {α : SE} {δ : SS} {γ : SA} {pos : Pos}
def sNeg (α : SE) : SE := fun env k e => α env (fun t env1 => asI t fun i => k (.int (-i)) env1) e
theorem d_neg (ha : PD X W a α) : PD X W (.UnaryOp .USub a pos) (sNeg α) :=
  pe_weak (pe_un un_neg ha) fun σ H Q ⟨env, R, k, e, w, h, ok, er⟩ => ⟨env, R, _, e, w, h, fun t env1 x H1 k1 w1 => by
    obtain ⟨i, rfl, k2⟩ := asI_get k1
    obtain rfl := wd_fl w1
    exact ⟨i, rfl, ok _ _ _ _ k2 (wd_ofl w1.drop)⟩, er⟩
theorem d_par3x {i j l : Nat} {x y z : Str} {px py pz pt' : Pos} {kt k2 : Nat} {pt2 : Pos} (hBi : B i = true) (hBj : B j = true) (hBl : B l = true) (hc : X.calm = true) (hN : X.N.Nodup) (hi : X.N[i]? = some x) (hj : X.N[j]? = some y) (hl : X.N[l]? = some z) (hij : i ≠ j) (hil : i ≠ l) (hjl : j ≠ l)
    (hx : X.env.scope.names.lookup x = some .local) (hy : X.env.scope.names.lookup y = some .local) (hz : X.env.scope.names.lookup z = some .local) (ha : PDA X W [a, b, c] γ)
    (hw : swappedStores [.Tuple [.Name x px, .Name y py, .Name z pz] kt pt'] (.Tuple [a, b, c] k2 pt2) X.env = pure (some [x, y, z]) := by rfl)
    (hs : swapsWithSole [.Tuple [.Name x px, .Name y py, .Name z pz] kt pt'] (.Tuple [a, b, c] k2 pt2) pos.line X.env = pure false := by rfl) :
    PDS X W B (.Assign [.Tuple [.Name x px, .Name y py, .Name z pz] kt pt'] (.Tuple [a, b, c] k2 pt2) pos) (sPar3 i j l γ) :=
  d_par3 (px := px) (py := py) (pz := pz) (pt' := pt') (kt := kt) (k2 := k2) (pt2 := pt2) hBi hBj hBl hc hN hi hj hl hij hil hjl (ps_par3 hc hN hi hj hl hij hil hjl hx hy hz ha hw hs) fun _ _ _ h => h
/-- the slot is stable behind it -/
def sFzS (i : Nat) (δ : SS) : SS := fun E env => δ ⟨fun env' => ifT (!isGone (slot env' i)) (force (env'.set i (.d (frz (slot env' i)))) E.nx), E.rt, E.bk, E.ct, E.ex⟩ env
theorem wd_fzSlot {H : Hp} {env : Nv} {σ : L2.St} {R : Asn} {i : Nat} (hg : slot env i ≠ .gone) (w : Wd H (EnvA K env σ • R)) : Wd H (EnvA K (env.set i (.d (frz (slot env i)))) σ • R) := by
  have hs := slot_get hg
  obtain ⟨v, hv, e2⟩ := wd_slot w hs hg
  rw [EnvA_back hv (List.getElem?_eq_some_iff.mp hs).1]
  rw [e2] at w
  exact (wd_frz (w.eq (star_assoc _ _ _))).eq (by ac_rfl)
theorem d_fzS {i : Nat} (h : PDS X W B st δ) : PDS X W B st (sFzS i δ) :=
  ps_weak h fun D σ H ⟨env, R, E, w, q, ok⟩ => ⟨env, R, _, w, q, ⟨fun env' σ' H' k1 kp w1 => by
    obtain ⟨g, k2⟩ := ifT_get k1
    refine ok.nx _ _ _ (force_mp k2) kp (wd_fzSlot (fun z => ?_) w1)
    rw [z] at g
    exact absurd g (by decide), ok.rt, ok.bk, ok.ct, ok.er⟩⟩
end
theorem u1 {k : Nat} {A : Around} (hr : Room k A) : A.units + 1 < cLine := by
  have := hr.un
  omega
end WC

/-! WLt: pieces, triples and tracks as plain values. -/
namespace WC
open PySem PySem.Spec PyProof.Rows L2
/-- a piece: of a net or a keep, from l to r, of a width -/
structure Pc where
  nm : Option Str
  l : Int
  r : Int
  w : Int
def nmV : Option Str → V
  | none => .non
  | some z => .str z
abbrev pcD (a : Pc) : D := .tup [.fl (nmV a.nm), .int a.l, .int a.r, .int a.w]
/-- p lies above q at c -/
structure Tr where
  p : Nat
  q : Nat
  c : Int
abbrev trD (a : Tr) : D := .tup [.int a.p, .int a.q, .int a.c]
def mx (i j : Int) : Int := if j > i then j else i
def mn (i j : Int) : Int := if j < i then j else i
theorem mx_eq {i j : Int} : mx i j = max i j := by unfold mx; split <;> omega
theorem mn_eq {i j : Int} : mn i j = min i j := by unfold mn; split <;> omega
def optV : Option Int → V
  | none => .non
  | some i => .int i
def commonP (a b : Pc) : Option Int := if mx a.l b.l ≤ mn a.r b.r then some (mx a.l b.l) else none
def oneNet (a b : Pc) : Bool := a.nm.isSome && eqB (nmV a.nm) (nmV b.nm)
def meetP (a : Pc) (x : Int) (b : Pc) (y : Int) : Option Int := if oneNet a b = true then none else if y + b.w ≤ x ∨ x + a.w ≤ y then none else commonP a b
abbrev pcsT (ps : List Pc) : T := .d (.lst (ps.map pcD))
abbrev intsD (ts : List Int) : D := .lst (ts.map D.int)
abbrev trsD (ab : List Tr) : D := .lst (ab.map trD)
theorem get_map {α : Type} {f : α → D} {xs : List α} {n : Nat} {x : α} (h : xs[n]? = some x) : (xs.map f)[n]? = some (f x) := by rw [List.getElem?_map, h]; rfl
def Small (i : Int) : Prop := i.natAbs < 10 ^ 12
structure PcOk (a : Pc) : Prop where
  nm : ∀ z, a.nm = some z → PyData.strOk z = true ∧ z.length ≤ 40
  l : Small a.l
  r : Small a.r
  w : Small a.w
end WC

/-! WLu: what a row of keys holds. -/
namespace WC
open PySem PySem.Spec PyProof.Rows L2
section
variable {α : Type}
theorem getG_nil {k : Key} : getG ([] : List (Key × α)) k = none := rfl
theorem getG_cons {l : List (Key × α)} {j k : Key} {a : α} : getG ((j, a) :: l) k = if j = k then some a else getG l k := by
  unfold getG
  by_cases h : j = k
  · rw [List.find?_cons_of_pos (by simpa using h), if_pos h]
    rfl
  · rw [List.find?_cons_of_neg (by simpa using h), if_neg h]
theorem getG_app {l m : List (Key × α)} {k : Key} : getG (l ++ m) k = (getG l k).or (getG m k) := by
  induction l with
  | nil => rfl
  | cons p l ih =>
    obtain ⟨j, a⟩ := p
    rw [List.cons_append, getG_cons, getG_cons]
    split
    · rfl
    · exact ih
theorem getG_map {l : List (Key × α)} {j k : Key} {a : α} : getG (l.map fun p => if p.1 = j then (p.1, a) else p) k = if k = j then (getG l k).map (fun _ => a) else getG l k := by
  induction l with
  | nil => simp [getG]
  | cons p l ih =>
    obtain ⟨i, b⟩ := p
    rw [List.map_cons]
    by_cases h : i = j
    · subst h
      rw [if_pos rfl, getG_cons, getG_cons, ih]
      by_cases h2 : i = k
      · subst h2
        simp
      · rw [if_neg h2, if_neg h2, if_neg (fun e => h2 e.symm)]
    · rw [if_neg h, getG_cons, getG_cons, ih]
      by_cases h2 : i = k
      · subst h2
        simp [h]
      · rw [if_neg h2, if_neg h2]
theorem getG_none {l : List (Key × α)} {k : Key} : getG l k = none ↔ ∀ p ∈ l, p.1 ≠ k := by
  induction l with
  | nil => simp [getG]
  | cons p l ih =>
    obtain ⟨i, b⟩ := p
    rw [getG_cons]
    by_cases h : i = k
    · simp [h]
    · simp [h, ih]
theorem anyK {l : List (Key × α)} {k : Key} : (l.any fun p => decide (p.1 = k)) = (getG l k).isSome := by
  induction l with
  | nil => rfl
  | cons p l ih =>
    obtain ⟨i, b⟩ := p
    rw [List.any_cons, getG_cons, ih]
    by_cases h : i = k <;> simp [h]
theorem getG_put {l : List (Key × α)} {j k : Key} {a : α} : getG (putG l j a) k = if k = j then some a else getG l k := by
  unfold putG
  rw [anyK]
  split
  · rename_i h
    rw [getG_map]
    split
    · rename_i e
      subst e
      obtain ⟨b, hb⟩ := Option.isSome_iff_exists.mp h
      rw [hb]
      rfl
    · rfl
  · rename_i h
    rw [getG_app, getG_cons, getG_nil]
    split
    · rename_i e
      have hn : getG l k = none := by rw [← e]; simpa using h
      rw [hn, if_pos e.symm]
      rfl
    · rename_i e
      rw [if_neg (fun z => e z.symm)]
      cases getG l k <;> rfl
theorem getG_mem {l : List (Key × α)} {k : Key} {a : α} (h : getG l k = some a) : (k, a) ∈ l := by
  unfold getG at h
  obtain ⟨p, hp, e⟩ := Option.map_eq_some_iff.mp h
  subst e
  have h1 := List.mem_of_find?_eq_some hp
  have h2 := List.find?_some hp
  have h3 : p.1 = k := by simpa using h2
  rw [← h3]
  exact h1
theorem mrgG_cons {l m : List (Key × α)} {p : Key × α} : mrgG l (p :: m) = mrgG (putG l p.1 p.2) m := rfl
/-- what is told behind a merge comes from one of both -/
theorem getG_mrg {k : Key} {a : α} : ∀ {m l : List (Key × α)}, getG (mrgG l m) k = some a → getG l k = some a ∨ (k, a) ∈ m
  | [], _, h => .inl h
  | p :: m, l, h => by
    rw [mrgG_cons] at h
    rcases getG_mrg h with z | z
    · rw [getG_put] at z
      split at z
      · rename_i e
        cases z
        right
        rw [e]
        exact List.mem_cons_self
      · exact .inl z
    · exact .inr (List.mem_cons_of_mem _ z)
theorem getG_mrgL {k : Key} : ∀ {m l : List (Key × α)}, (getG l k).isSome = true → (getG (mrgG l m) k).isSome = true
  | [], l, h => h
  | p :: m, l, h => by
    rw [mrgG_cons]
    refine getG_mrgL ?_
    rw [getG_put]
    split
    · rfl
    · exact h
theorem getG_mrgS {k : Key} {p : Key × α} (e : p.1 = k) : ∀ {m l : List (Key × α)}, p ∈ m → (getG (mrgG l m) k).isSome = true
  | [], _, h => by cases h
  | q :: m, l, h => by
    rw [mrgG_cons]
    rcases List.mem_cons.mp h with z | z
    · subst z
      refine getG_mrgL ?_
      rw [getG_put, if_pos e.symm]
      rfl
    · exact getG_mrgS e z
end
/-! ### names with widths -/
/-- the width that the row tells of a name -/
def wdF (l : List (Str × Int)) (z : Str) : Int := match getG (mrgG [] (l.map fun p => ((.inr p.1 : Key), D.int p.2))) (.inr z) with
  | some (.fl (.int w)) => w
  | _ => 1
theorem wdF_get {l : List (Str × Int)} {z : Str} (h : z ∈ l.map (·.1)) : getG (mrgG [] (l.map fun p => ((.inr p.1 : Key), D.int p.2))) (.inr z) = some (D.int (wdF l z)) ∧ ∃ p ∈ l, wdF l z = p.2 := by
  obtain ⟨p, hp, rfl⟩ := List.mem_map.mp h
  have h1 := getG_mrgS (α := D) (k := (.inr p.1 : Key)) (p := (.inr p.1, D.int p.2)) rfl (m := l.map fun p => ((.inr p.1 : Key), D.int p.2)) (l := []) (List.mem_map.mpr ⟨p, hp, rfl⟩)
  obtain ⟨d, hd⟩ := Option.isSome_iff_exists.mp h1
  rcases getG_mrg hd with z | z
  · cases z
  · obtain ⟨q, hq, e⟩ := List.mem_map.mp z
    have e2 : D.int q.2 = d := congrArg Prod.snd e
    subst e2
    refine ⟨?_, q, hq, ?_⟩
    · rw [hd]
      simp only [wdF, hd]
    · simp only [wdF, hd]
theorem zip_fs2 {α β : Type} (l : List (α × β)) : (l.map (·.1)).zip (l.map (·.2)) = l := zip_fs l
/-! ### tuples of ints, sorted -/
abbrev itD (xs : List Int) : D := .tup (xs.map D.int)
theorem pyL_ints : ∀ xs : List Int, pyL (xs.map D.int) = xs.map PyData.int
  | [] => rfl
  | x :: xs => by
    show pyL (.fl (.int x) :: xs.map D.int) = _
    rw [pyL, pyL_ints xs]
    simp only [py, List.map_cons]
theorem py_itD (xs : List Int) : py (itD xs) = .tuple (xs.map .int) := by
  show py (.tup _) = _
  rw [py, pyL_ints]
theorem okL_ints : ∀ xs : List Int, okL (xs.map D.int) = true
  | [] => rfl
  | x :: xs => by
    show okL (.fl (.int x) :: xs.map D.int) = _
    rw [okL, okL_ints xs]
    rfl
theorem leD_I (xs ys : List Int) : leD (itD xs) (itD ys) = decide (xs ≤ ys) := by
  unfold leD
  rw [PySem.W.dataLe_eq]
  show (!PySem.W.dataLt (py (itD ys)) (py (itD xs))) = _
  rw [py_itD, py_itD, PySem.W.dataLt_tuple]
  show (!PySem.W.rowLt (ys.map .int) (xs.map .int)) = _
  rw [PySem.W.dataLt_ints]
  by_cases h : ys < xs
  · have h' : ¬ xs ≤ ys := fun r => List.not_lt.mpr r h
    simp [h, h']
  · have h' : xs ≤ ys := List.not_lt.mp h
    simp [h, h']
def sortI (l : List (List Int)) : List (List Int) := l.mergeSort fun a b => decide (a ≤ b)
theorem sortI_perm (l : List (List Int)) : (sortI l).Perm l := List.mergeSort_perm _ _
theorem sortI_pair (l : List (List Int)) : (sortI l).Pairwise fun a b => a ≤ b := by
  have h := List.pairwise_mergeSort (le := fun a b : List Int => decide (a ≤ b)) (fun a b c h1 h2 => decide_eq_true (List.le_trans (of_decide_eq_true h1) (of_decide_eq_true h2))) (fun a b => by
    rcases List.le_total a b with z | z <;> simp [z]) l
  exact h.imp fun h => of_decide_eq_true h
theorem sortT_I (l : List (List Int)) : sortT (l.map fun xs => .d (itD xs)) = (sortI l).map fun xs => .d (itD xs) := by
  unfold sortT sortI
  rw [List.map_mergeSort (s := fun a b => leD (frz a) (frz b)) (fun a _ b _ => (leD_I a b).symm)]
theorem Srt_I {l : List (List Int)} (h : ∀ xs ∈ l, xs ≠ []) (hl : l.length ≤ 1000000) : Srt (l.map itD) := by
  refine ⟨?_, ?_, ?_, by rw [List.length_map]; exact hl, ?_⟩
  · rw [okL_all, List.all_eq_true]
    intro d hd
    obtain ⟨xs, _, rfl⟩ := List.mem_map.mp hd
    show okP (.tup _) = true
    rw [okP]
    exact okL_ints xs
  · intro d hd d' hd'
    obtain ⟨e, he, rfl⟩ := List.mem_map.mp hd
    obtain ⟨e', he', rfl⟩ := List.mem_map.mp hd'
    obtain ⟨xs, _, rfl⟩ := List.mem_map.mp he
    obtain ⟨ys, _, rfl⟩ := List.mem_map.mp he'
    rw [py_itD, py_itD, PySem.W.alike]
    exact PySem.W.alike_ints xs ys
  · left
    intro d hd
    obtain ⟨e, he, rfl⟩ := List.mem_map.mp hd
    obtain ⟨xs, hx, rfl⟩ := List.mem_map.mp he
    rw [py_itD]
    cases xs with
    | nil => exact absurd rfl (h _ hx)
    | cons x xs => exact ⟨_, _, rfl⟩
  · intro d hd
    obtain ⟨xs, hx, rfl⟩ := List.mem_map.mp hd
    rw [py_itD, PyData.depth, PySem.W.depth_ints]
    decide
/-- one more than the last: a list laid out anew -/
theorem frzL_its (l : List (List Int)) : frzL (l.map fun xs => T.d (itD xs)) = l.map itD := frzL_of (fun _ => rfl) l
theorem flat_ints : ∀ xs : List Int, flatDs (xs.map D.int) = true
  | [] => rfl
  | x :: xs => by
    show flatDs (.fl (.int x) :: xs.map D.int) = true
    rw [flatDs, flat_ints xs]
    rfl
theorem ownL_of {α : Type} {f : α → T} (h : ∀ x, own (f x) = true) : ∀ xs : List α, ownL (xs.map f) = true
  | [] => by simp only [List.map_nil, ownL]
  | x :: xs => by
    rw [List.map_cons, ownL, ownL_of h xs, h x]
    rfl
theorem own_its (l : List (List Int)) : own (.lst (l.map fun xs => T.d (itD xs))) = true := by
  rw [own]
  refine ownL_of (fun xs => ?_) l
  rw [own, flatD]
  exact flat_ints xs
theorem repL_one (n : Nat) (t : T) : repL n [t] = List.replicate n t := by
  unfold repL
  induction n with
  | zero => rfl
  | succ n ih => rw [List.replicate_succ, List.flatten_cons, ih, List.replicate_succ]; rfl
/-- a drawn order of the first numbers -/
theorem perm_nats {es : List D} {n : Nat} (h : es.Perm ((List.range n).map fun i => D.int ((i : Nat) : Int))) : ∃ od : List Nat, od.Perm (List.range n) ∧ es = od.map fun i => D.int ((i : Nat) : Int) := by
  let g : D → Nat := fun d => match d with
    | .fl (.int i) => i.toNat
    | _ => 0
  have hg : ∀ i : Nat, g (D.int ((i : Nat) : Int)) = i := fun i => Int.toNat_natCast i
  refine ⟨es.map g, ?_, ?_⟩
  · have h2 := h.map g
    rw [List.map_map] at h2
    have e : (List.range n).map (g ∘ fun i => D.int ((i : Nat) : Int)) = List.range n := by
      refine (List.map_congr_left fun i _ => ?_).trans (List.map_id _)
      exact hg i
    rw [e] at h2
    exact h2
  · rw [List.map_map]
    refine (List.map_id _).symm.trans (List.map_congr_left fun d hd => ?_)
    obtain ⟨i, _, rfl⟩ := List.mem_map.mp (h.mem_iff.mp hd)
    have e := hg i
    show D.int (i : Int) = D.int (((g (D.int (i : Int))) : Nat) : Int)
    rw [e]
theorem rngD (n : Nat) : frzL (rngT 0 n) = (List.range n).map fun i => D.int ((i : Nat) : Int) := by
  unfold rngT
  rw [frzL_of (g := fun i : Nat => D.int (0 + (i : Int))) fun _ => rfl]
  refine List.map_congr_left fun i _ => ?_
  rw [Int.zero_add]
abbrev optT (o : Option Int) : T := .d (.fl (optV o))
abbrev natT (n : Nat) : T := .int (n : Nat)
theorem PcOk.pr {a : Pc} (h : PcOk a) : Pr 164 1 (pcD a) := by
  refine Pr.tup (w := 40) (n := 0) (l := 4) (fun d hd => ?_) (Nat.le_refl _)
  simp only [List.mem_cons, List.not_mem_nil, or_false] at hd
  rcases hd with rfl | rfl | rfl | rfl
  · cases e : a.nm with
    | none => exact Pr.non.mono (by decide) (Nat.le_refl _)
    | some z =>
      obtain ⟨h1, h2⟩ := h.nm z e
      exact (Pr.str h1).mono h2 (Nat.le_refl _)
  · exact Pr.int h.l
  · exact Pr.int h.r
  · exact Pr.int h.w
/-! two ways that come together -/
theorem wh_join {b : Bool} {α β : SE} {env : Nv} {k : EK} {e : XQ} (P : T → Nv → Prop) (h1 : b = true → ∀ Q : EK, (∀ t env', P t env' → Q t env') → α env Q e) (h2 : b = false → ∀ Q : EK, (∀ t env', P t env' → Q t env') → β env Q e) (h3 : ∀ t env', P t env' → k t env') : wh b (α env k e) (β env k e) :=
  wh_of (fun h => h1 h k h3) fun h => h2 h k h3
theorem wh_joinS {b : Bool} {δ δ' : SS} {E : EndT} {env : Nv} (P : Nv → Prop) (h1 : b = true → ∀ N : Nv → Prop, (∀ env', P env' → N env') → δ ⟨N, E.rt, E.bk, E.ct, E.ex⟩ env) (h2 : b = false → ∀ N : Nv → Prop, (∀ env', P env' → N env') → δ' ⟨N, E.rt, E.bk, E.ct, E.ex⟩ env)
    (h3 : ∀ env', P env' → E.nx env') : wh b (δ E env) (δ' E env) :=
  wh_of (fun h => h1 h E.nx h3) fun h => h2 h E.nx h3
end WC

/-! WLv: sets of ints and texts, by their members; set(xs), len and sorted of it, at any size. -/
namespace WC
open PySem PySem.Spec PyProof.Rows L2
section
variable {P : Program} {w : World} {A : Around} {E : Value → Shared → Prop} {s : Shared} {a : Addr}
/-- the key that a value is -/
def ky : Value → Key
  | .int i _ => .inl i
  | .str z _ => .inr z
  | _ => .inl 0
theorem ky_of {k : Key} {v : Value} (h : (mixKind P w).is k v = true) : ky v = k ∧ v.scannable = true := by
  rcases keyIs_shape h with ⟨i, t, e1, e2⟩ | ⟨x, t, e1, e2⟩ <;> (subst e1; subst e2; exact ⟨rfl, rfl⟩)
structure GoodK (P : Program) (w : World) (e : Int × Value) : Prop where
  is : (mixKind P w).is (ky e.2) e.2 = true
  hs : e.1 = (mixKind P w).hash (ky e.2)
theorem GoodK.el {l : List (Int × Value)} (g : ∀ e ∈ l, GoodK P w e) : ElemsOf (mixKind P w) l := fun e he => ⟨⟨_, (g e he).is, (g e he).hs⟩, (ky_of (g e he).is).2⟩
/-- the set at a has these members, in its table's order -/
def SetG (P : Program) (w : World) (h : Heap) (a : Addr) (L : List Key) : Prop :=
  ∃ (o : Obj) (es : Array (Int × Value)) (ep : Nat) (t : SetTable), (h.get? a = some o ∧ o.ExactSet ∧ o.data = .set es ep t) ∧
    ((∀ e ∈ es.toList, GoodK P w e) ∧ es.toList.map (fun e => ky e.2) = L ∧ L.Nodup) ∧ (es.size < scanBound ∧ t.fits es.size = true) ∧ Ris t.place.toList ∧ (w.params.followText "set-order" = true ∨ t.led = true)
theorem SetG.keep {h h' : Heap} {L : List Key} (R : SetG P w h a L) (k : ∀ o, h.get? a = some o → h'.get? a = some o) : SetG P w h' a L := by
  obtain ⟨o, es, ep, t, ⟨h1, h2⟩, r⟩ := R
  exact ⟨o, es, ep, t, ⟨k o h1, h2⟩, r⟩
/-- what is in behind a step -/
def Added (L L' : List Key) (k : Key) : Prop := (k ∈ L ∧ L' = L) ∨ (k ∉ L ∧ L'.Perm (k :: L))
theorem setG_tail {g : Bool → Sem Unit} (hg : ∀ (b : Bool) (s1 : Shared) (Q1 : Unit → Shared → Prop), Q1 () s1 → wpAny (model P w) A (g b) Q1 E s1)
    {o : Obj} {es es1 : Array (Int × Value)} {ep : Nat} {t t2 : SetTable} {L' : List Key} (at0 : s.heap.get? a = some o ∧ o.ExactSet ∧ o.data = .set es ep t)
    (good : ∀ e ∈ es1.toList, GoodK P w e) (keys : (es1.toList.map fun e => ky e.2).Perm L') (nd : L'.Nodup) (few : es1.size < scanBound) (fits : t2.fits es1.size = true) (ris : Ris t2.place.toList)
    (led : w.params.followText "set-order" = true ∨ t2.led = true) {dm : Bool} {R : Option Bool → Shared → Prop} (done : ∀ h' L2, Heap.SameBut a s.heap h' → SetG P w h' a L2 → L2.Perm L' → R (some true) { s with heap := h' }) :
    wpAny (model P w) A (storeSet a es1 t2 >>= fun _ => if (!dm && t2.tooFull) = true then
        (g (relayAll t2 es1 (SetTable.grown es1.size)).2.2 >>= fun _ => storeSet a (relayAll t2 es1 (SetTable.grown es1.size)).1 (relayAll t2 es1 (SetTable.grown es1.size)).2.1 >>= fun _ => pure (some true)) else pure (some true)) R E s := by
  obtain ⟨ho, hex, hd⟩ := at0
  refine wpAny_bind (wpAny_storeSet_of ho hd ?_ (fits_of_scanBound few))
  have hoA := store_at (es' := es1) (t' := t2) ho hd
  have sbA := Heap.SameBut.update s.heap a (Obj.putSet es1 t2)
  by_cases hc : (!dm && t2.tooFull) = true
  · rw [if_pos hc]
    have pm := relayAll_perm t2 es1 (SetTable.grown es1.size)
    have f3 := relayAll_fits t2 es1 (SetTable.grown es1.size)
    have r3 := relayAll_ris t2 es1 (SetTable.grown es1.size)
    have l3 := relayAll_led t2 es1 (SetTable.grown es1.size)
    generalize relayAll t2 es1 (SetTable.grown es1.size) = Y at pm f3 r3 l3 ⊢
    rcases Y with ⟨es2, t3, gv⟩
    dsimp only at pm f3 r3 l3 ⊢
    have sz2 : es2.size = es1.size := by
      have q := pm.length_eq
      rwa [Array.length_toList, Array.length_toList] at q
    have few2 : es2.size < scanBound := by omega
    refine wpAny_bind (hg _ _ _ (wpAny_bind (wpAny_storeSet_of hoA rfl ?_ (fits_of_scanBound few2))))
    have hoB := store_at (es' := es2) (t' := t3) hoA rfl
    have pk := pm.map fun e => ky e.2
    refine wpAny_pure (done _ _ (sbA.trans (Heap.SameBut.update _ a _)) ⟨_, es2, _, t3, ⟨hoB, hex, rfl⟩, ⟨fun e he => good e (pm.mem_iff.mp he), rfl, ?_⟩, ⟨few2, f3⟩, r3, led.imp id fun z => l3.trans z⟩ (pk.trans keys))
    exact ((pk.trans keys).nodup_iff).mpr nd
  · rw [if_neg hc]
    exact wpAny_pure (done _ _ sbA ⟨_, es1, _, t2, ⟨hoA, hex, rfl⟩, ⟨good, rfl, keys.nodup_iff.mpr nd⟩, ⟨few, fits⟩, ris, led⟩ keys)
theorem setG_add {k : Key} {x : Value} {L : List Key} {Q : Bool → Shared → Prop} (R : SetG P w s.heap a L) (hk : (mixKind P w).is k x = true) (room : L.length + 1 < scanBound)
    (hQ : ∀ h' L' b, Heap.SameBut a s.heap h' → SetG P w h' a L' → Added L L' k → Q b { s with heap := h' }) :
    wpAny (model P w) A (setAddHashed a x ((mixKind P w).hash k)) Q E s := by
  obtain ⟨o, es, ep, t, ⟨ho, hex, hd⟩, ⟨good, keys, nd⟩, ⟨few, fits⟩, ris, led⟩ := R
  obtain ⟨hkx, hsc⟩ := ky_of hk
  have hel := GoodK.el good
  have hmem : k ∈ L ↔ ∃ e ∈ es.toList, (mixKind P w).is k e.2 = true := by
    rw [← keys, List.mem_map]
    constructor
    · rintro ⟨e, h1, h2⟩
      exact ⟨e, h1, by rw [← h2]; exact (good e h1).is⟩
    · rintro ⟨e, h1, h2⟩
      exact ⟨e, h1, (ky_of h2).1⟩
  unfold setAddHashed setAddHashedIn
  refine wpAny_holding (wpAny_bind (wpAny_setState_of ho hd fits ?_))
  dsimp only
  rw [byScan_of hsc few hel]
  simp only [↓reduceIte]
  unfold setAddByScan
  refine wpAny_bind (wpAny_bind (wpAny_rule (wpAny_bind (wpAny_setScan_of hk ho hd fits hel ?_))))
  cases hfi : List.findIdx? (fun e => (mixKind P w).is k e.2) es.toList with
  | some j =>
    dsimp only
    obtain ⟨hj, pj, _⟩ := List.findIdx?_eq_some_iff_getElem.mp hfi
    exact wpAny_pure (wpAny_pure (hQ s.heap L _ (Heap.SameBut.refl a s.heap) ⟨o, es, ep, t, ⟨ho, hex, hd⟩, ⟨good, keys, nd⟩, ⟨few, fits⟩, ris, led⟩ (.inl ⟨hmem.mpr ⟨_, List.getElem_mem hj, pj⟩, rfl⟩)))
  | none =>
    dsimp only
    have hnk : k ∉ L := fun z => by
      obtain ⟨e, he, q⟩ := hmem.mp z
      rw [List.findIdx?_eq_none_iff.mp hfi e he] at q
      cases q
    have hgv : ∀ (b : Bool) {s1 : Shared} {Q1 : Unit → Shared → Prop}, Q1 () s1 → wpAny (model P w) A (match b with | true => rule "set.scan.the-table-gave-way" | false => pure ()) Q1 E s1 := fun b s1 Q1 q => by
      cases b with
      | true => exact wpAny_rule q
      | false => exact wpAny_pure q
    have pm := layNew_perm t es ((mixKind P w).hash k) x
    have f1 := layNew_fits t es ((mixKind P w).hash k) x
    have r1 := layNew_ris t es ((mixKind P w).hash k) x ris
    have l1 := layNew_led t es ((mixKind P w).hash k) x
    generalize layNew t es ((mixKind P w).hash k) x = Y at pm f1 r1 l1 ⊢
    rcases Y with ⟨es1, t1, dm, gv⟩
    dsimp only at pm f1 r1 l1 ⊢
    rw [Array.toList_push] at pm
    have pc : es1.toList.Perm (((mixKind P w).hash k, x) :: es.toList) := pm.trans (List.perm_append_singleton _ _)
    have pk : (es1.toList.map fun e => ky e.2).Perm (k :: L) := by
      have q := pc.map fun e => ky e.2
      rw [List.map_cons, keys, hkx] at q
      exact q
    have good1 : ∀ e ∈ es1.toList, GoodK P w e := fun e he => by
      rcases List.mem_cons.mp (pc.mem_iff.mp he) with z | z
      · subst z
        exact ⟨by rw [hkx]; exact hk, by rw [hkx]⟩
      · exact good e z
    have nd1 : (k :: L).Nodup := List.nodup_cons.mpr ⟨hnk, nd⟩
    have few1 : es1.size < scanBound := by
      have q := pk.length_eq
      rw [List.length_map, Array.length_toList, List.length_cons] at q
      omega
    have led1 : w.params.followText "set-order" = true ∨ t1.led = true := led.imp id fun z => l1.trans z
    have fin : ∀ h' L2, Heap.SameBut a s.heap h' → SetG P w h' a L2 → L2.Perm (k :: L) → Q true { s with heap := h' } := fun h' L2 sb r p => hQ h' L2 true sb r (.inr ⟨hnk, p⟩)
    refine wpAny_bind (hgv _ ?_)
    split
    · refine wpAny_bind ?_
      rw [hashByValue_scannable 8 hsc]
      refine wpAny_pure (setG_tail (fun b s1 Q1 q => ?_) ⟨ho, hex, hd⟩ good1 pk nd1 few1 ?_ ?_ ?_ ?_)
      · cases b <;> first | exact wpAny_pure q | exact wpAny_rule q
      · first | (split <;> first | exact f1 | exact SetTable.fits_plain_off f1) | exact f1
      · first | (split <;> exact r1) | exact r1
      · first | (split <;> exact led1) | exact led1
      · intro h' L2 sb r p
        dsimp only
        exact wpAny_pure (fin h' L2 sb r p)
    · refine wpAny_bind (wpAny_pure ?_)
      simp only [↓reduceIte]
      refine setG_tail (fun b s1 Q1 q => ?_) ⟨ho, hex, hd⟩ good1 pk nd1 few1 f1 r1 led1 ?_
      · cases b <;> first | exact wpAny_pure q | exact wpAny_rule q
      · intro h' L2 sb r p
        dsimp only
        exact wpAny_pure (fin h' L2 sb r p)
end
end WC

/-! WLw: set(xs) of ints and texts, its length, sorted of it. -/
namespace WC
open PySem PySem.Spec PyProof.Rows L2
section
variable {P : Program} {w : World} {A : Around} {E : Value → Shared → Prop} {s : Shared} {a : Addr}
/-- the members by now -/
def Met0 (ks : List Key) (i : Nat) (L : List Key) : Prop := L.length ≤ i ∧ ∀ k, k ∈ L ↔ k ∈ ks.take i
theorem Met0.next {ks L L' : List Key} {i : Nat} {k : Key} (m : Met0 ks i L) (hk : ks[i]? = some k) (h : Added L L' k) : Met0 ks (i + 1) L' := by
  have e : ks.take (i + 1) = ks.take i ++ [k] := by rw [List.take_add_one, hk]; rfl
  rcases h with ⟨h1, rfl⟩ | ⟨h1, h2⟩
  · refine ⟨Nat.le_succ_of_le m.1, fun j => ?_⟩
    rw [e, List.mem_append, m.2 j, List.mem_singleton]
    exact ⟨.inl, fun z => z.elim id fun z => by rw [z]; exact (m.2 k).mp h1⟩
  · refine ⟨by rw [h2.length_eq]; exact Nat.succ_le_succ m.1, fun j => ?_⟩
    rw [e, List.mem_append, ← m.2 j, List.mem_singleton, h2.mem_iff, List.mem_cons]
    exact Or.comm
theorem setG_loop {I : Addr} {fp wr : List Addr} {G : Array GenState → Array GenState → Prop} {n : Nat} {Pv : Nat → Value → Prop} {St : Nat → Shared → Prop} {R : Result → Shared → Prop}
    (wk : WalksS P w A.in1 I fp wr G n Pv St) (D : Addr) (out : D ∉ fp) (ks : List Key) (len : n = ks.length) (room : ks.length + 1 < scanBound) (vals : ∀ i v, Pv i v → ∃ k, ks[i]? = some k ∧ (mixKind P w).is k v = true) :
    ∀ (m i : Nat) (s : Shared), n - i = m → i ≤ n → St i s → (∃ L, SetG P w s.heap D L ∧ Met0 ks i L) →
      (∀ s' L, Moved (D :: wr) G s s' → SetG P w s'.heap D L → Met0 ks n L → R (.ok (.ret .none)) s') → codeAny (model P w) A (.builtin "set.update.loop" ⟨[.ref D, .ref I], []⟩) R s := by
  have outw : D ∉ wr := fun h => out (wk.sub _ h)
  have inw : ∀ b ∈ wr, b ∈ D :: wr := fun b hb => List.mem_cons_of_mem _ hb
  intro m
  induction m with
  | zero =>
    rintro i s hm hi st ⟨L, hS, hL⟩ done
    obtain rfl : i = n := by omega
    refine codeAny_builtin PyProof.Rows.F.entry_set_update_loop ?_
    rw [Around.under_plainId PyProof.Rows.F.plain_set_update_loop _]
    show wpAny (model P w) A.in1 (pyNext (.ref I) >>= _) _ _ s
    refine wpAny_bind (wk.done s _ _ st fun s1 mv => ?_)
    exact wpAny_pure (done s1 L (mv.mono inw) (hS.keep fun o e => mv.heap D o outw e) hL)
  | succ m ih =>
    rintro i s hm hi st ⟨L, hS, hL⟩ done
    have lt : i < n := by omega
    refine codeAny_builtin PyProof.Rows.F.entry_set_update_loop ?_
    rw [Around.under_plainId PyProof.Rows.F.plain_set_update_loop _]
    show wpAny (model P w) A.in1 (pyNext (.ref I) >>= _) _ _ s
    refine wpAny_bind (wk.item i s _ _ lt st fun v s1 pv st1 mv => ?_)
    obtain ⟨k, hk, is⟩ := vals i v pv
    have hS1 : SetG P w s1.heap D L := hS.keep fun o e => mv.heap D o outw e
    show wpAny (model P w) A.in1 (holding [v] (setAdd D v) >>= _) _ _ s1
    refine wpAny_bind (wpAny_holding ?_)
    unfold setAdd
    refine wpAny_holding (wpAny_bind ((mixKind P w).pyHash is ?_))
    refine setG_add (s := { s1 with toks := s1.toks + 1 }) hS1 is (by have := hL.1; omega) fun h' L' b sb hS2 ad => ?_
    refine wpAny_pure ⟨plainId_quiet PyProof.Rows.F.plain_set_update_loop _, ih (i + 1) _ (by omega) lt (wk.frame _ s1 _ _ st1 (Nat.le_succ _) fun c hc o e => ?_) ⟨L', hS2, hL.next hk ad⟩ fun s2 L2 mv2 hS3 hL2 => ?_⟩
    · have ne : c ≠ D := fun z => out (z ▸ hc)
      rw [sb.2 c ne]
      exact e
    · refine done s2 L2 (Moved.trans wk.gtrans ((mv.mono inw).then_heap (Nat.le_succ _) fun c o hc e => ?_) mv2) hS3 hL2
      have ne : c ≠ D := fun z => hc (by rw [z]; exact List.mem_cons_self)
      rw [sb.2 c ne]
      exact e
abbrev set00 (w : World) : Obj := { cls := .type "set", dict := none, data := .set #[] 0 (.fresh 0 0 (!w.params.followText "set-order")) }
theorem setG_fresh {h : Heap} (e : h.get? a = some (set00 w)) : SetG P w h a [] := by
  refine ⟨_, #[], 0, _, ⟨e, ⟨rfl, rfl, rfl⟩, rfl⟩, ⟨fun e he => (by cases he), rfl, List.nodup_nil⟩, ⟨by decide, rfl⟩, List.Pairwise.nil, ?_⟩
  show _ ∨ (!w.params.followText "set-order") = true
  cases w.params.followText "set-order" with
  | true => exact .inl rfl
  | false => exact .inr rfl
set_option maxHeartbeats 16000000 in
/-- set(xs) -/
theorem call_setG {l : Addr} {items : Array Value} (ks : List Key) {Q : Value → Shared → Prop} (hh : A.handled = none) (hl : s.heap.IsList l items) (hlen : items.size = ks.length) (vals : ∀ (i : Nat) (v : Value), items[i]? = some v → ∃ k, ks[i]? = some k ∧ (mixKind P w).is k v = true)
    (room : ks.length + 1 < scanBound)
    (h : ∀ (h' : Heap) (tk : Nat) (L : List Key), SetG P w h' s.heap.objs.size L → Met0 ks ks.length L → (∀ b o, s.heap.get? b = some o → h'.get? b = some o) → Q (.ref s.heap.objs.size) { s with heap := h', toks := tk }) :
    wpAny (model P w) A (call (.type "set") [.ref l]) Q E s := by
  obtain ⟨c, tl, hmro⟩ := PySem.F.called_set.mro
  have hmade := PySem.F.called_set.made
  have hsub := PySem.F.called_set.sub
  refine wpAny_call (codeAny_of_tree (show wpAny _ _ (callAny (.type "set") _) _ _ _ from wpAny_pure ⟨Code.quiet_builtin _ (by decide +kernel), codeAny_builtin PySem.F.entry_type_call ?_⟩))
  rw [Around.under_plain (weight_type_call_type "set" [.ref l] []) rfl]
  have h1 := PySem.F.called_set.notType
  have h2 := PySem.F.called_set.canCreate
  have hct := PySem.F.typeCall_set_1 (.ref l)
  repeat (any_goals (first | assumption | wp_step))
  refine codeAny_mono (code_set_led1 (.ref l) (E := E) (Q₁ := fun u s1 => u = .ref s.heap.objs.size ∧ s1 = { s with heap := s.heap.push (set00 w) }) ⟨rfl, rfl⟩) fun r s1 hr => ?_
  cases r with
  | error e => exact hr
  | ok fl =>
    cases fl with
    | ret obj =>
      obtain ⟨rfl, rfl⟩ := hr
      have new0 : (s.heap.push (set00 w)).get? s.heap.objs.size = some (set00 w) := Heap.get?_push_size _ rfl
      have tyS : Shared.TypeIs { s with heap := s.heap.push (set00 w) } (.ref s.heap.objs.size) "set" := ⟨_, new0, rfl⟩
      have hli := PySem.F.called_set.init.lookup
      have hbi := PySem.F.called_set.init.bind (.ref s.heap.objs.size)
      repeat (any_goals (first | assumption | wp_step))
      refine codeAny_mono (codeAny_call_builtin (R := wants (fun r s2 => r = .none ∧ ∃ (h' : Heap) (tk : Nat) (L : List Key), s2 = { s with heap := h', toks := tk } ∧ SetG P w h' s.heap.objs.size L ∧ Met0 ks ks.length L ∧
          ∀ b o, s.heap.get? b = some o → h'.get? b = some o) E) PySem.F.called_set.init.plain PySem.F.entry_set_init (check_set_init_1 tyS ?_)) fun r2 s2 hr2 => ?_
      · obtain ⟨ol, hol, hcl, nl, hdl⟩ := hl
        obtain ⟨ocls, odict, odata, oslots⟩ := ol
        simp only at hcl hdl
        subst hcl
        subst hdl
        have hol1 : (s.heap.push (set00 w)).get? l = some { cls := .type "list", dict := odict, data := .seq items nl, slots := oslots } := Heap.get?_push_of_some _ hol
        have hsls := PySem.F.sub_list_set
        have hslf := PySem.F.sub_list_frozenset
        have hne : (Value.type "list" == Value.type "dict") = false := by decide
        have hl1 : (s.heap.push (set00 w)).IsList l items := ⟨_, hol1, rfl, nl, rfl⟩
        unfold Builtin.«set.__init__» noKeywords Builtin.Frozenset.updateFrom
        generalize hPI : pyIter = PI
        wp_walk
        subst hPI
        refine wpAny_pyIter_list hl1 (wpAny_bind (wpAny_runValue ?_))
        have lS : l < s.heap.objs.size := Heap.lt_size hol
        have hh3 : A.in1.in1.in1.handled = none := by simp [hh]
        have sz1 : (s.heap.push (set00 w)).objs.size = s.heap.objs.size + 1 := Heap.size_push ..
        have neI : l ≠ (s.heap.push (set00 w)).objs.size := by rw [sz1]; exact Nat.ne_of_lt (Nat.lt_succ_of_lt lS)
        have notin : s.heap.objs.size ∉ [(s.heap.push (set00 w)).objs.size, l] := by
          rw [sz1]
          intro z
          rcases List.mem_cons.mp z with z | z
          · exact absurd z (Nat.ne_of_lt (Nat.lt_succ_self _))
          · exact absurd (List.mem_singleton.mp z) (Nat.ne_of_gt lS)
        refine setG_loop ((Walks.list hh3 _ l neI items).toS) s.heap.objs.size notin ks hlen room vals (items.size - 0) 0 _ (by omega) (Nat.zero_le _) ⟨⟨_, Heap.get?_push_size _ rfl, rfl, rfl⟩, (hl1.push _)⟩
          ⟨[], setG_fresh (Heap.get?_push_of_some _ new0), Nat.le_refl _, fun k => by rw [List.take_zero]⟩ fun s3 L mv hS hL => ?_
        have hkp : ∀ b o, s.heap.get? b = some o → s3.heap.get? b = some o := fun b o e => by
          have hb : b < s.heap.objs.size := Heap.lt_size e
          refine mv.heap b o (fun z => ?_) (Heap.get?_push_of_some _ (Heap.get?_push_of_some _ e))
          rcases List.mem_cons.mp z with z | z
          · exact absurd hb (by rw [z]; exact Nat.lt_irrefl _)
          · exact absurd hb (by rw [List.mem_singleton.mp z, sz1]; exact Nat.not_lt_of_le (Nat.le_succ _))
        obtain ⟨h3, g3, d3, tk3, os3⟩ := s3
        have eg : g3 = s.gens := mv.gens
        have ed : d3 = s.drawn := mv.drawn
        have eo : os3 = s.os := mv.os
        subst eg
        subst ed
        subst eo
        rw [hlen] at hL
        refine wpAny_pure ?_
        show wpAny (model P w) _ (ret Value.none) _ _ _
        exact wpAny_pure ⟨rfl, h3, tk3, L, rfl, hS, hL, hkp⟩
      · cases r2 with
        | error e => exact hr2
        | ok fl2 =>
          cases fl2 with
          | ret r =>
            obtain ⟨rfl, h', tk, L, rfl, hS, hL, hkp⟩ := hr2
            repeat (any_goals (first | assumption | wp_step))
            exact h _ _ _ hS hL hkp
          | _ => exact hr2.elim
    | _ => exact hr.elim
end
end WC

/-! WLx: sorted and len of a set, as one with set(xs). -/
namespace WC
open PySem PySem.Spec PyProof.Rows L2
def pyK : Key → PyData
  | .inl i => .int i
  | .inr z => .str z
theorem relK {P : Program} {w : World} {v : Value} (h : (mixKind P w).is (ky v) v = true) : RelV (kV (ky v)) v := by
  rcases keyIs_shape h with ⟨i, t, e1, e2⟩ | ⟨x, t, e1, e2⟩
  · rw [e1, e2]
    exact ⟨t, rfl⟩
  · rw [e1, e2]
    exact ⟨t, rfl⟩
theorem readsK {h : Heap} {k : Key} {v : Value} (r : RelV (kV k) v) : ∃ as, Reads h v (pyK k) as := by
  cases k with
  | inl i =>
    obtain ⟨t, e⟩ := (show ∃ t, v = Value.int i t from r)
    rw [e]
    exact ⟨_, .int _ _⟩
  | inr z =>
    obtain ⟨t, e⟩ := (show ∃ t, v = Value.str z t from r)
    rw [e]
    exact ⟨_, .str _ _⟩
theorem each_ky {P : Program} {w : World} : ∀ vs : List Value, (∀ v ∈ vs, (mixKind P w).is (ky v) v = true) → PySem.W.EachIs (fun v k => RelV (kV k) v) vs (vs.map ky)
  | [], _ => .nil
  | v :: vs, h => .cons (relK (h v List.mem_cons_self)) (each_ky vs fun u hu => h u (List.mem_cons_of_mem _ hu))
theorem sortK_so (L : List Key) : PySem.W.Sortable (L.map pyK) := .inr fun d hd => by
  obtain ⟨k, _, rfl⟩ := List.mem_map.mp hd
  cases k with
  | inl i => exact ⟨fun z => (by cases z), fun xs z => (by cases z)⟩
  | inr i => exact ⟨fun z => (by cases z), fun xs z => (by cases z)⟩
section
variable {P : Program} {w : World} {A : Around} {E : Value → Shared → Prop} {s : Shared} {a : Addr}
abbrev leK : Key → Key → Bool := PySem.W.dataLe false pyK
theorem sorted_setG {L : List Key} {Q : Value → Shared → Prop} (R : SetG P w s.heap a L) (hh : A.handled = none) (al : PySem.W.AllAlike (L.map pyK)) (hu : A.units + 8 < cLine)
    (done : ∀ (s1 : Shared) (p : Addr) (out : Array Value) (c : Nat) (ys zs : List Key), (∀ b o, s.heap.get? b = some o → s1.heap.get? b = some o) → s1.gens = s.gens → s1.os = s.os → s.heap.objs.size ≤ p →
      s1.heap.get? p = some (seqObj "list" out c) → PySem.W.EachIs (fun v k => RelV (kV k) v) out.toList ys → zs.Perm L → ys = zs.mergeSort leK → Q (.ref p) s1) : wpAny (model P w) A (call (.builtin "sorted") [.ref a]) Q E s := by
  obtain ⟨o, es, ep, t, ⟨ho, hex, hd⟩, ⟨good, keys, nd⟩, ⟨few, fits⟩, ris, led⟩ := R
  refine Calls.call_function_entry kind_sorted plain_sorted entry_sorted (args_sorted1 _) ?_
  unfold Builtin.«sorted»
  refine wpAny_bind (m := checkCount "sorted" 1 1 _) (wpAny_pure (wpAny_bind (collect_set (A := A.in1) hh ⟨o, ho, hex.1, hd⟩ fits few ris led fun s1 vs k1 hz g1 o1 pm => ?_)))
  have eL : es.toList.map (fun e => ky e.2) = (es.toList.map (·.2)).map ky := by rw [List.map_map]; rfl
  have pk : (vs.map ky).Perm L := by
    rw [← keys, eL]
    exact pm.map ky
  have vis : ∀ v ∈ vs, (mixKind P w).is (ky v) v = true := fun v hv => by
    obtain ⟨e, he, rfl⟩ := List.mem_map.mp (pm.mem_iff.mp hv)
    exact (good e he).is
  have each := each_ky vs vis
  have vl : vs.length ≤ sizeLine := by
    rw [pm.length_eq, List.length_map, Array.length_toList]
    exact fits_of_scanBound few
  have al2 : PySem.W.AllAlike ((vs.map ky).map pyK) := fun d hd d' hd' => al d ((pk.map pyK).mem_iff.mp hd) d' ((pk.map pyK).mem_iff.mp hd')
  refine wpAny_bind (wpAny_newList ?_ vl)
  have new1 : (s1.heap.push (seqObj "list" vs.toArray 0)).get? s1.heap.objs.size = some (seqObj "list" vs.toArray 0) := Heap.get?_push_size _ rfl
  have er : ∀ h : Heap, PySem.W.EachIs (fun v k => ∃ as, Reads h v (pyK k) as) vs (vs.map ky) := fun h => each.mono fun _ _ r => readsK r
  have zero : ∀ k : Key, (pyK k).depth = 0 := fun k => by cases k <;> rfl
  refine wpAny_bind (wpAny_holding (wpAny_call_entry slot_list_sort ⟨_, new1, rfl⟩ entry_list_sort (PySem.W.list_sort_vals new1 (PySem.W.SortsAt.data (PySem.W.each_map (R := fun v d => ∃ as, Reads _ v d as) pyK (er _)) al2 (sortK_so _) (PySem.W.bound_map fun k _ => ?_)) vl ⟨_, rfl, ?_⟩) (args_list_sort _)))
  · rw [zero]
    simp only [Around.in1_units]
    omega
  · obtain ⟨c, hc⟩ := sortedHeap_at (vs := vs) (out := (PySem.W.sortVals (PySem.W.dataKind (PySem.W.sortingHeap (s1.heap.push (seqObj "list" vs.toArray 0)) s1.heap.objs.size vs) ((vs.map ky).map pyK)) false vs vs).toArray) new1
    refine wpAny_pure ⟨_, rfl, done _ s1.heap.objs.size _ c _ (vs.map ky) (fun b u e => ?_) g1 o1 hz hc (PySem.W.sortVals_data false each (er _) al2) pk rfl⟩
    have q := k1 b u e
    have lt := Heap.lt_size q
    show (sortedHeap (s1.heap.push (seqObj "list" vs.toArray 0)) s1.heap.objs.size vs _).get? b = some u
    rw [sortedHeap_old (Nat.ne_of_lt lt) (by rw [size_push']; exact Nat.lt_succ_of_lt lt)]
    exact Heap.get?_push_of_some _ q
end
end WC

/-! WLy: sorted(set(xs)), len(set(xs)) of ints or texts, over trees. -/
namespace WC
open PySem PySem.Spec PyProof.Rows L2
def SetGO (P : Program) (w : World) (a : Addr) (L : List Key) : HO := .ext fun h => SetG P w h a L
theorem vals_ky {P : Program} {w : World} : ∀ {ks : List Key} {us : List Value}, Vals (ks.map kV) us → us.length = ks.length ∧ ∀ (i : Nat) (v : Value), us[i]? = some v → ∃ k, ks[i]? = some k ∧ (mixKind P w).is k v = true
  | [], _, h => by
    cases h
    exact ⟨rfl, fun i v e => by simp at e⟩
  | k :: ks, us, h => by
    have h : Vals (kV k :: ks.map kV) us := h
    cases h with
    | cons r t =>
      obtain ⟨l, q⟩ := vals_ky (P := P) (w := w) t
      refine ⟨by rw [List.length_cons, List.length_cons, l], fun i v e => ?_⟩
      cases i with
      | zero =>
        simp only [List.getElem?_cons_zero, Option.some.injEq] at e
        subst e
        exact ⟨k, rfl, kV_is r⟩
      | succ i =>
        rw [List.getElem?_cons_succ] at e
        exact q i v e
theorem each_vals : ∀ {us : List Value} {ys : List Key}, PySem.W.EachIs (fun v k => RelV (kV k) v) us ys → Vals (ys.map kV) us
  | _, _, .nil => .nil
  | _, _, .cons h t => .cons h (each_vals t)
section
variable {X : Cx} {W : WX} {a : Expr} {α : SE} {pos pos2 p1 p2 : Pos}
def rSetG (K : PySem.W.Frag) (P : Program) (w : World) : List V → Hp → VK → Prop := fun xs H Q => ∃ (l : Addr) (ks : List Key), xs = [V.ref l] ∧ SqL K H l (ks.map kV) ∧ ks.length < 4000 ∧
  ∀ (p : Addr) (L : List Key), H p = none → L.Nodup → (∀ k, k ∈ L ↔ k ∈ ks) → Q (.ref p) (upd H p (SetGO P w p L))
theorem setGO_new {P : Program} {w : World} {H : Hp} {h : Heap} {a : Addr} {L : List Key} (R : SetG P w h a L) : ObjOk P w H h a (SetGO P w a L) := by
  obtain ⟨o, es, ep, t, ⟨ho, r1⟩, r⟩ := id R
  exact ⟨R, ⟨o, ho⟩, fun h1 h2 p k => SetG.keep p k⟩
theorem cr_setG (hc : X.calm = true) : CallR X (.type "set") (rSetG X.K X.prog X.w) := by
  rintro pins s σ H xs us Q I r ⟨l, ks, rfl, hl, few, q⟩
  rw [Vals.ref1 r]
  obtain ⟨its, rv, pl, hz⟩ := I.list hl
  obtain ⟨len, vals⟩ := vals_ky (P := X.prog) (w := X.w) rv
  refine call_setG (P := X.prog) (w := X.w) ks (I.ok.hd hc) pl.isList (by simpa using len) (fun i v e => vals i v (by simpa using e)) (by show ks.length + 1 < 4096; omega) fun h' tk L R m k => ?_
  have nd : L.Nodup := by
    obtain ⟨o, es, ep, t, _, ⟨_, _, nd⟩, _⟩ := R
    exact nd
  refine ⟨.ref s.heap.objs.size, upd H s.heap.objs.size (SetGO X.prog X.w s.heap.objs.size L), I.laid (t' := tk) k (Nat.le_refl _) (setGO_new R), rfl, q _ L (I.hok.fresh (Nat.le_refl _)) nd fun j => ?_⟩
  rw [m.2 j, List.take_length]
def rSortG (P : Program) (w : World) : List V → Hp → VK → Prop := fun vs H Q => ∃ (a : Addr) (L : List Key), vs = [V.ref a] ∧ H a = some (SetGO P w a L) ∧ L.length < 4000 ∧ PySem.W.AllAlike (L.map pyK) ∧
  ∀ (p : Addr) (zs : List Key), zs.Perm L → H p = none → Q (.ref p) (upd H p (.lst ((zs.mergeSort leK).map kV)))
theorem cr_sortG (hc : X.calm = true) (hu : X.A.units + 64 < cLine) : CallR X (.builtin "sorted") (rSortG X.prog X.w) := by
  rintro pins s σ H vs us Q I r ⟨a, L, rfl, ha, few, al, q⟩
  have R : SetG X.prog X.w s.heap a L := (I.hok a _ ha).1
  rw [Vals.ref1 r]
  refine sorted_setG R (I.ok.hd hc) al (by omega) fun s1 p out c ys zs k g o hp hg hi pm ey => ?_
  subst ey
  have len : ((zs.mergeSort leK).map kV).length ≤ sizeLine := by
    rw [List.length_map, List.length_mergeSort, pm.length_eq, sizeLine_eq]
    omega
  have new : H p = none := I.hok.fresh hp
  have J : Inv X pins σ (upd H p (.lst ((zs.mergeSort leK).map kV))) { s with heap := s1.heap, gens := s1.gens, drawn := s1.drawn, toks := s1.toks } :=
    I.call (ch := []) (Un.laid k hp new) (I.hok.laid k hp ⟨len, out.toList, c, each_vals hi, hg⟩) (by rw [g]; exact I.bare) fun _ z => nomatch z
  have e : s1 = { s with heap := s1.heap, gens := s1.gens, drawn := s1.drawn, toks := s1.toks } := by
    cases s1
    cases s
    cases o
    rfl
  rw [e]
  exact ⟨.ref p, _, J, rfl, q p zs pm new⟩
def rLenG (P : Program) (w : World) : List V → Hp → VK → Prop := fun vs H Q => ∃ (a : Addr) (L : List Key), vs = [V.ref a] ∧ H a = some (SetGO P w a L) ∧ L.length < 4000 ∧ Q (.int (L.length : Nat)) H
theorem cr_lenG : CallR X (.builtin "len") (rLenG X.prog X.w) := by
  rintro pins s σ H vs us Q I r ⟨a, L, rfl, ha, few, q⟩
  have R : SetG X.prog X.w s.heap a L := (I.hok a _ ha).1
  rw [Vals.ref1 r]
  obtain ⟨o, es, ep, t, ⟨ho, hex, hd⟩, ⟨_, el, _⟩, ⟨_, hf⟩, _⟩ := R
  have e : es.size = L.length := by rw [← el, List.length_map, Array.length_toList]
  exact call_len_set ho hex hd hf (by omega) ⟨.int (L.length : Nat), H, (I.tok _).tok _, ⟨_, by rw [e]⟩, q⟩
/-! over trees -/
abbrev keyT (k : Key) : T := .fl (kV k)
def asKs (t : T) (k : List Key → Prop) : Prop := itL t fun ts => ∃ ks : List Key, ts = ks.map keyT ∧ ks.length < 4000 ∧ k ks
/-- sorted(set(xs)) -/
def sSortSet (α : SE) : SE := fun env k e => α env (fun t env1 => asKs t fun ks => PySem.W.AllAlike (ks.map pyK) ∧ ∀ zs : List Key, zs.Nodup → (∀ j, j ∈ zs ↔ j ∈ ks) → k (.lst ((zs.mergeSort leK).map keyT)) env1) e
/-- len(set(xs)) -/
def sLenSet (α : SE) : SE := fun env k e => α env (fun t env1 => asKs t fun ks => ∀ zs : List Key, zs.Nodup → (∀ j, j ∈ zs ↔ j ∈ ks) → k (.int (zs.length : Nat)) env1) e
theorem RepL_keys {K : PySem.W.Frag} {H : Hp} {A : Asn} {ks : List Key} {vs : List V} (w : Wd H (RepL K (ks.map keyT) vs • A)) : vs = ks.map kV := by
  have e : ks.map keyT = (ks.map kV).map T.fl := by rw [List.map_map]; rfl
  rw [e] at w
  exact RepL_fls w
theorem wd_flsR {K : PySem.W.Frag} {H : Hp} {A : Asn} {ks : List Key} (w : Wd H A) : Wd H (RepL K (ks.map keyT) (ks.map kV) • A) := by
  have e : ks.map keyT = (ks.map kV).map T.fl := by rw [List.map_map]; rfl
  rw [e, RepL_fl, emp_star]
  exact w
theorem nodup_len {α : Type} [DecidableEq α] : ∀ {zs ks : List α}, zs.Nodup → (∀ j ∈ zs, j ∈ ks) → zs.length ≤ ks.length
  | [], _, _, _ => Nat.zero_le _
  | z :: zs, ks, nd, h => by
    obtain ⟨n1, n2⟩ := List.nodup_cons.mp nd
    have hz := h z List.mem_cons_self
    have := nodup_len (ks := ks.erase z) n2 fun j hj => (List.mem_erase_of_ne (fun e : _ = z => n1 (by rw [← e]; exact hj))).mpr (h j (List.mem_cons_of_mem _ hj))
    rw [List.length_erase_of_mem hz] at this
    have p0 : 0 < ks.length := List.length_pos_of_mem hz
    rw [List.length_cons]
    omega
theorem few_of {ks zs : List Key} (nd : zs.Nodup) (h : ∀ j, j ∈ zs ↔ j ∈ ks) (l : ks.length < 4000) : zs.length < 4000 := by
  have := nodup_len nd fun j hj => (h j).mp hj
  omega
theorem d_sortSet (hc : X.calm = true) (hu : X.A.units + 64 < cLine) (hg : Gl X "sorted") (hm : X.mg "sorted" = none) (hg2 : Gl X "set") (hm2 : X.mg "set" = none) (ha : PD X W a α) (na : starEach [a] X.env = (false, eval a X.env) :: starEach [] X.env := by rfl)
    (hp2 : (backTo pos2 (starEach [] X.env)).any (·.1) = false := by rfl)
    (na2 : starEach [.Call (.Name "set" p2) [a] [] pos2] X.env = (false, eval (.Call (.Name "set" p2) [a] [] pos2) X.env) :: starEach [] X.env := by rfl) (hp1 : (backTo pos (starEach [] X.env)).any (·.1) = false := by rfl) :
    PD X W (.Call (.Name "sorted" p1) [.Call (.Name "set" p2) [a] [] pos2] [] pos) (sSortSet α) := by
  refine pe_weak (pe_callB (cr_sortG hc hu) hg hm (by decide +kernel) (pa_cons (pe_callTy (cr_setG hc) hg2 hm2 (by decide +kernel) (pa_cons ha pa_nil na) (by decide) (by decide) na hp2) pa_nil na2) (by decide) (by decide) na2 hp1) ?_
  rintro σ H Q ⟨env, R, k, e, w, q, ok, er⟩
  refine ⟨env, R, _, e, w, q, fun t env1 v H1 k1 w1 => ?_, er⟩
  obtain ⟨p, ts, vs, Sp, rfl, ⟨ks, rfl, few, al, k2⟩, l1, s1, w2⟩ := wd_unseq k1 w1
  have w3 : Wd H1 (RepL X.K (ks.map keyT) vs • (Sp • EnvA X.K env1 σ • R)) := w2.eq (star_left _ _ _)
  obtain rfl := RepL_keys w3
  refine ⟨p, ks, rfl, s1 H1 _ w2, few, fun b L nb nd hm => ?_⟩
  refine ⟨b, L, rfl, upd_same, few_of nd hm few, fun d hd d' hd' => ?_, fun c zs pm nc => ?_⟩
  · obtain ⟨j, hj, rfl⟩ := List.mem_map.mp hd
    obtain ⟨j', hj', rfl⟩ := List.mem_map.mp hd'
    exact al _ (List.mem_map.mpr ⟨j, (hm j).mp hj, rfl⟩) _ (List.mem_map.mpr ⟨j', (hm j').mp hj', rfl⟩)
  · refine ok _ _ _ _ (k2 zs (pm.nodup_iff.mpr nd) fun j => (pm.mem_iff).trans (hm j)) ?_
    have w4 := (w2.lay (o := SetGO X.prog X.w b L) nb).drop
    have w5 := w4.alloc (o := .lst ((zs.mergeSort leK).map kV)) nc fun xs z => by cases z
    refine wd_lst (vs := (zs.mergeSort leK).map kV) ?_
    have w6 := wd_flsR (K := X.K) (ks := zs.mergeSort leK) w5
    have w7 : Wd (upd (upd H1 b (SetGO X.prog X.w b L)) c (.lst ((zs.mergeSort leK).map kV))) (Sp • (RepL X.K (ks.map keyT) (ks.map kV) • (pt c (.lst ((zs.mergeSort leK).map kV)) • RepL X.K ((zs.mergeSort leK).map keyT) ((zs.mergeSort leK).map kV) • EnvA X.K env1 σ • R))) := w6.eq (by ac_rfl)
    exact w7.drop.drop
theorem d_lenSet (hc : X.calm = true) (hg : Gl X "len") (hm : X.mg "len" = none) (hg2 : Gl X "set") (hm2 : X.mg "set" = none) (ha : PD X W a α) (na : starEach [a] X.env = (false, eval a X.env) :: starEach [] X.env := by rfl)
    (hp2 : (backTo pos2 (starEach [] X.env)).any (·.1) = false := by rfl)
    (na2 : starEach [.Call (.Name "set" p2) [a] [] pos2] X.env = (false, eval (.Call (.Name "set" p2) [a] [] pos2) X.env) :: starEach [] X.env := by rfl) (hp1 : (backTo pos (starEach [] X.env)).any (·.1) = false := by rfl) :
    PD X W (.Call (.Name "len" p1) [.Call (.Name "set" p2) [a] [] pos2] [] pos) (sLenSet α) := by
  refine pe_weak (pe_callB cr_lenG hg hm (by decide +kernel) (pa_cons (pe_callTy (cr_setG hc) hg2 hm2 (by decide +kernel) (pa_cons ha pa_nil na) (by decide) (by decide) na hp2) pa_nil na2) (by decide) (by decide) na2 hp1) ?_
  rintro σ H Q ⟨env, R, k, e, w, q, ok, er⟩
  refine ⟨env, R, _, e, w, q, fun t env1 v H1 k1 w1 => ?_, er⟩
  obtain ⟨p, ts, vs, Sp, rfl, ⟨ks, rfl, few, k2⟩, l1, s1, w2⟩ := wd_unseq k1 w1
  have w3 : Wd H1 (RepL X.K (ks.map keyT) vs • (Sp • EnvA X.K env1 σ • R)) := w2.eq (star_left _ _ _)
  obtain rfl := RepL_keys w3
  refine ⟨p, ks, rfl, s1 H1 _ w2, few, fun b L nb nd hm => ?_⟩
  refine ⟨b, L, rfl, upd_same, few_of nd hm few, ok _ _ _ _ (k2 L nd hm) ?_⟩
  have w4 := (w3.lay (o := SetGO X.prog X.w b L) nb).drop.drop.drop
  exact wd_ofl w4
end
end WC

/-! WLz: what is sorted of a set: rising ints, rising texts. -/
namespace WC
open PySem PySem.Spec PyProof.Rows L2
theorem leK_ints (a b : Int) : leK (.inl a) (.inl b) = decide (a ≤ b) := by
  have h := PySem.W.dataLe_int (β := Int) fun x => x
  exact congrFun (congrFun h a) b
theorem leK_strs (a b : Str) : leK (.inr a) (.inr b) = decide (a.cps.toList ≤ b.cps.toList) := by
  have h := PySem.W.dataLe_str (β := Str) fun x => x
  exact congrFun (congrFun h a) b
theorem al_ints (xs : List Int) : PySem.W.AllAlike ((xs.map fun i => (.inl i : Key)).map pyK) := by
  rw [List.map_map]
  exact PySem.W.AllAlike.of fun a b => by simp [pyK, PySem.W.alike]
theorem al_strs (xs : List Str) : PySem.W.AllAlike ((xs.map fun i => (.inr i : Key)).map pyK) := by
  rw [List.map_map]
  exact PySem.W.AllAlike.of fun a b => by simp [pyK, PySem.W.alike]
theorem sorted_ints {zs : List Key} {xs : List Int} (nd : zs.Nodup) (hm : ∀ j, j ∈ zs ↔ j ∈ xs.map fun i => (.inl i : Key)) : ∃ ys : List Int, zs.mergeSort leK = ys.map (fun i => (.inl i : Key)) ∧ ys.Pairwise (· < ·) ∧ ∀ x, x ∈ ys ↔ x ∈ xs := by
  let g : Key → Int := fun k => match k with
    | .inl i => i
    | .inr _ => 0
  have ez : zs = (zs.map g).map fun i => (.inl i : Key) := by
    rw [List.map_map]
    refine (List.map_id zs).symm.trans (List.map_congr_left fun k hk => ?_)
    obtain ⟨i, _, rfl⟩ := List.mem_map.mp ((hm k).mp hk)
    rfl
  generalize hw : zs.map g = ws at ez
  subst ez
  have nd2 : ws.Nodup := by
    refine List.Pairwise.imp ?_ (List.pairwise_map.mp nd)
    intro a b h e
    exact h (by rw [e])
  have em : ((ws.map fun i => (.inl i : Key)).mergeSort leK) = (ws.mergeSort fun a b => decide (a ≤ b)).map fun i => (.inl i : Key) := by
    rw [List.map_mergeSort (s := leK) fun a _ b _ => (leK_ints a b).symm]
  refine ⟨ws.mergeSort fun a b => decide (a ≤ b), em, ?_, fun x => ?_⟩
  · have h := List.pairwise_mergeSort (le := fun a b : Int => decide (a ≤ b)) (fun a b c h1 h2 => by simp at *; omega) (fun a b => by simp; omega) ws
    have n3 : (ws.mergeSort fun a b => decide (a ≤ b)).Nodup := (List.mergeSort_perm _ _).nodup_iff.mpr nd2
    refine (h.and n3).imp fun {a b} ⟨h1, h2⟩ => ?_
    have := of_decide_eq_true h1
    omega
  · rw [(List.mergeSort_perm _ _).mem_iff]
    have h := hm (.inl x)
    constructor
    · intro hx
      obtain ⟨y, hy, e⟩ := List.mem_map.mp (h.mp (List.mem_map.mpr ⟨x, hx, rfl⟩))
      cases e
      exact hy
    · intro hx
      obtain ⟨y, hy, e⟩ := List.mem_map.mp (h.mpr (List.mem_map.mpr ⟨x, hx, rfl⟩))
      cases e
      exact hy
theorem str_ext {a b : Str} (h : a.cps.toList = b.cps.toList) : a = b := PySem.W.str_of_cps h
theorem sorted_strs {zs : List Key} {xs : List Str} (nd : zs.Nodup) (hm : ∀ j, j ∈ zs ↔ j ∈ xs.map fun i => (.inr i : Key)) : ∃ ys : List Str, zs.mergeSort leK = ys.map (fun i => (.inr i : Key)) ∧ ys.Pairwise (fun a b => a.cps.toList < b.cps.toList) ∧ ∀ x, x ∈ ys ↔ x ∈ xs := by
  let g : Key → Str := fun k => match k with
    | .inr i => i
    | .inl _ => ⟨#[]⟩
  have ez : zs = (zs.map g).map fun i => (.inr i : Key) := by
    rw [List.map_map]
    refine (List.map_id zs).symm.trans (List.map_congr_left fun k hk => ?_)
    obtain ⟨i, _, rfl⟩ := List.mem_map.mp ((hm k).mp hk)
    rfl
  generalize hw : zs.map g = ws at ez
  subst ez
  have nd2 : ws.Nodup := by
    refine List.Pairwise.imp ?_ (List.pairwise_map.mp nd)
    intro a b h e
    exact h (by rw [e])
  have em : ((ws.map fun i => (.inr i : Key)).mergeSort leK) = (ws.mergeSort fun a b => decide (a.cps.toList ≤ b.cps.toList)).map fun i => (.inr i : Key) := by
    rw [List.map_mergeSort (s := leK) fun a _ b _ => (leK_strs a b).symm]
  refine ⟨ws.mergeSort fun a b => decide (a.cps.toList ≤ b.cps.toList), em, ?_, fun x => ?_⟩
  · have h := List.pairwise_mergeSort (le := fun a b : Str => decide (a.cps.toList ≤ b.cps.toList)) (fun a b c h1 h2 => decide_eq_true (List.le_trans (of_decide_eq_true h1) (of_decide_eq_true h2))) (fun a b => by
      rcases List.le_total a.cps.toList b.cps.toList with z | z <;> simp [z]) ws
    have n3 : (ws.mergeSort fun a b => decide (a.cps.toList ≤ b.cps.toList)).Nodup := (List.mergeSort_perm _ _).nodup_iff.mpr nd2
    refine (h.and n3).imp fun {a b} ⟨h1, h2⟩ => ?_
    have h3 := of_decide_eq_true h1
    by_cases e : a.cps.toList < b.cps.toList
    · exact e
    · exact absurd (str_ext (List.le_antisymm h3 (List.not_lt.mp e))) h2
  · rw [(List.mergeSort_perm _ _).mem_iff]
    have h := hm (.inr x)
    constructor
    · intro hx
      obtain ⟨y, hy, e⟩ := List.mem_map.mp (h.mp (List.mem_map.mpr ⟨x, hx, rfl⟩))
      cases e
      exact hy
    · intro hx
      obtain ⟨y, hy, e⟩ := List.mem_map.mp (h.mpr (List.mem_map.mpr ⟨x, hx, rfl⟩))
      cases e
      exact hy
/-- a while by what holds ahead of each turn and behind all -/
theorem sWhile_of {p : SB} {δ : SS} {E : EndT} {env : Nv} (Wt : Nat → Nv → Prop) (Post : Nv → Prop) (m : Nat) (h0 : Wt m env)
    (hs : ∀ m env (N Nx : Nv → Prop), Wt m env → (∀ m' e, m' < m → Wt m' e → N e) → (∀ e, Post e → Nx e) → p env (fun b env1 => wh b (δ ⟨N, E.rt, Nx, N, E.ex⟩ env1) (Nx env1)) E.ex) (hp : ∀ e, Post e → E.nx e) : sWhile p δ E env :=
  ⟨Wt, m, h0, fun m env h => hs m env _ _ h (fun m' e lt w => ⟨m', lt, w⟩) hp⟩
theorem eqBi {i j : Int} : eqB (.int i) (.int j) = true ↔ i = j := by
  rw [eqB_eq, decide_eq_true_eq]
  exact ⟨fun h => V.int.inj h, fun h => by rw [h]⟩
theorem eqBi' {i j : Int} : eqB (.int i) (.int j) = false ↔ ¬ i = j := by
  rw [← Bool.not_eq_true, eqBi]
/-- max(xs, default=d) of ints, both ways as one -/
def fMaxDj : FCK := fun ts us k => match ts, us with
  | [t], [u] => itL t fun ts => asIs ts fun ns => asI u fun d => ∀ m, (ns = [] → m = d) → (ns ≠ [] → m ∈ ns ∧ ∀ y ∈ ns, y ≤ m) → k (.int m)
  | _, _ => False
theorem rc_maxDj {K : PySem.W.Frag} : RCK K fMaxDj (rMaxDf K) := fun ts us vs zs H A k Q w h ok => by
  refine rc_maxDf ts us vs zs H A k Q w ?_ ok
  unfold fMaxDj at h
  split at h
  · rename_i t u
    unfold fMaxDf
    unfold itL at h ⊢
    split at h
    · obtain ⟨ns, e, h⟩ := h
      obtain ⟨d, rfl, h⟩ := asI_get h
      exact ⟨ns, e, fun z => h d (fun _ => rfl) fun n => absurd z n, fun m h1 h2 => h m (fun z => by rw [z] at h1; cases h1) fun _ => ⟨h1, h2⟩⟩
    · obtain ⟨ns, e, h⟩ := h
      obtain ⟨d, rfl, h⟩ := asI_get h
      exact ⟨ns, e, fun z => h d (fun _ => rfl) fun n => absurd z n, fun m h1 h2 => h m (fun z => by rw [z] at h1; cases h1) fun _ => ⟨h1, h2⟩⟩
    · exact h.elim
  · exact h.elim
theorem eqD_cn (d : D) (ds : List D) : eqD (.lst (d :: ds)) (.lst []) = false := by
  rw [eqD_eq]
  simp [py, pyL, PyData.eqv, PyData.eqvAll]
end WC

/-! WMa: strips of levels and widths, as plain functions. -/
namespace WC
open PySem PySem.Spec PyProof.Rows L2
/-- first column, last column, number -/
abbrev Tri := Int × Int × Nat
abbrev triI (x : Tri) : List Int := [x.1, x.2.1, (x.2.2 : Int)]
abbrev triD (x : Tri) : D := itD (triI x)
def sortTri (l : List Tri) : List Tri := l.mergeSort fun a b => decide (triI a ≤ triI b)
theorem sortTri_perm (l : List Tri) : (sortTri l).Perm l := List.mergeSort_perm _ _
theorem sortI_tri (l : List Tri) : sortI (l.map triI) = (sortTri l).map triI := by
  unfold sortI sortTri
  rw [List.map_mergeSort (s := fun a b : List Int => decide (a ≤ b)) (fun a _ b _ => rfl)]
theorem sortTri_pair (l : List Tri) : (sortTri l).Pairwise fun a b => a.1 ≤ b.1 := by
  have h := sortI_pair (l.map triI)
  rw [sortI_tri, List.pairwise_map] at h
  refine h.imp fun {a b} h => ?_
  rcases List.cons_le_cons_iff.mp h with z | z <;> omega
/-- the pieces of a level and width, with their numbers -/
def selF (ps : List Pc) (lv : List Int) (L w : Int) : List Tri := ((ps.zip lv).zipIdx.filter fun x => decide (x.1.2 = L) && decide (x.1.1.w = w)).map fun x => (x.1.1.l, x.1.1.r, x.2)
def ordF (ps : List Pc) (lv : List Int) (L w : Int) : List Tri := sortTri (selF ps lv L w)
def putE (ends : List Int) (i : Nat) (r : Int) : List Int := if i < ends.length then ends.set i r else ends ++ [r]
/-- the first strip that is free at l -/
def slotE (ends : List Int) (l : Int) : Nat := ends.findIdx fun e => decide (e < l)
/-- strips: their ends, and who lies on which -/
abbrev Lay := List Int × List (Tri × Nat)
def layS (st : Lay) (x : Tri) : Lay := (putE st.1 (slotE st.1 x.1) x.2.1, st.2 ++ [(x, slotE st.1 x.1)])
def layF (o : List Tri) : Lay := o.foldl layS ([], [])
/-- tracks by a group's strips -/
def setsF (b w : Int) (pl : List (Tri × Nat)) (tr : List Int) : List Int := pl.foldl (fun t x => t.set x.1.2.2 (b + x.2 * w)) tr
abbrev Sg := Int × List Int
def stepW (ps : List Pc) (lv : List Int) (L : Int) (st : Sg) (w : Int) : Sg :=
  (st.1 + (layF (ordF ps lv L w)).1.length * w, setsF st.1 w (layF (ordF ps lv L w)).2 st.2)
def stepL (ps : List Pc) (lv : List Int) (st : Sg) (L : Int) : Sg := [3, 2, 1].foldl (stepW ps lv L) st
def levF (ps : List Pc) (lv : List Int) (Ls : List Int) : Sg := Ls.foldl (stepL ps lv) (0, List.replicate ps.length 0)
/-- what by_levels tells, and its count -/
def maxL (lv : List Int) : Int := lv.foldl max (-1)
def rngI (n : Nat) : List Int := (List.range n).map fun (i : Nat) => ((i : Nat) : Int)
def byLv (ps : List Pc) (lv : List Int) : List Int := (levF ps lv (rngI (maxL lv + 1).toNat)).2
def bndF (ps : List Pc) (lv : List Int) : Int := (levF ps lv (rngI (maxL lv + 1).toNat)).1
/-! ### ends -/
theorem putE_len {ends : List Int} {i : Nat} {r : Int} : (putE ends i r).length = if i < ends.length then ends.length else ends.length + 1 := by
  unfold putE
  split
  · rw [List.length_set]
  · rw [List.length_append]; rfl
theorem slotE_le {ends : List Int} {l : Int} : slotE ends l ≤ ends.length := List.findIdx_le_length
theorem slotE_lt {ends : List Int} {l : Int} {i : Nat} (h : i < slotE ends l) : ∃ e, ends[i]? = some e ∧ l ≤ e := by
  have hi : i < ends.length := Nat.lt_of_lt_of_le h slotE_le
  refine ⟨ends[i], List.getElem?_eq_getElem hi, ?_⟩
  have := List.not_of_lt_findIdx h
  simp at this
  omega
theorem slotE_at {ends : List Int} {l : Int} {e : Int} (h : ends[slotE ends l]? = some e) : e < l := by
  obtain ⟨hi, rfl⟩ := List.getElem?_eq_some_iff.mp h
  have := List.findIdx_getElem (p := fun e => decide (e < l)) (xs := ends) (w := hi)
  have q := of_decide_eq_true this
  exact q
theorem slotE_of {ends : List Int} {l : Int} {i : Nat} (h1 : ∀ (j : Nat) (e : Int), j < i → ends[j]? = some e → l ≤ e) (h2 : i ≤ ends.length) (h3 : ∀ e, ends[i]? = some e → e < l) : slotE ends l = i := by
  rcases Nat.lt_trichotomy (slotE ends l) i with z | z | z
  · obtain ⟨e, he⟩ : ∃ e, ends[slotE ends l]? = some e := ⟨_, List.getElem?_eq_getElem (by omega)⟩
    have q1 := slotE_at he
    have q2 := h1 _ e z he
    omega
  · exact z
  · obtain ⟨e, h4, h5⟩ := slotE_lt z
    have := h3 e h4
    omega
/-! ### the strips -/
def inT (c : Int) (x : Tri) : Bool := decide (x.1 ≤ c) && decide (c ≤ x.2.1)
def crowd (q : List Tri) (c : Int) : Nat := (q.filter (inT c)).length
structure LayInv (q : List Tri) (st : Lay) : Prop where
  items : st.2.map (·.1) = q
  lt : ∀ y ∈ st.2, y.2 < st.1.length
  last : ∀ i, i < st.1.length → ∃ y ∈ st.2, y.2 = i ∧ st.1[i]? = some y.1.2.1
  upto : ∀ y ∈ st.2, ∀ e, st.1[y.2]? = some e → y.1.2.1 ≤ e
  apart : st.2.Pairwise fun y z => y.2 = z.2 → y.1.2.1 < z.1.1
  wit : st.1.length ≠ 0 → ∃ x ∈ q, st.1.length ≤ crowd q x.1
theorem crowd_zip {q : List Tri} {st : Lay} (h : st.2.map (·.1) = q) (c : Int) : crowd q c = (st.2.filter fun y => inT c y.1).length := by
  unfold crowd
  rw [← h, List.filter_map, List.length_map]
  rfl
theorem inT_iff {c : Int} {x : Tri} : inT c x = true ↔ x.1 ≤ c ∧ c ≤ x.2.1 := by
  unfold inT
  rw [Bool.and_eq_true, decide_eq_true_eq, decide_eq_true_eq]
/-- no column lies in more pieces than there are strips -/
theorem LayInv.le {q : List Tri} {st : Lay} (I : LayInv q st) (c : Int) : crowd q c ≤ st.1.length := by
  rw [crowd_zip I.items]
  have nd : ((st.2.filter fun y => inT c y.1).map (·.2)).Nodup := by
    unfold List.Nodup
    rw [List.pairwise_map]
    refine (List.Pairwise.and_mem.mp (I.apart.sublist List.filter_sublist)).imp fun {y z} ⟨hy, hz, h⟩ e => ?_
    have h1 := inT_iff.mp (List.mem_filter.mp hy).2
    have h2 := inT_iff.mp (List.mem_filter.mp hz).2
    have := h e
    omega
  have := nodup_len (ks := List.range st.1.length) nd fun i hi => by
    obtain ⟨y, hy, rfl⟩ := List.mem_map.mp hi
    exact List.mem_range.mpr (I.lt y (List.mem_filter.mp hy).1)
  rw [List.length_map, List.length_range] at this
  exact this
theorem putE_get {ends : List Int} {i j : Nat} {r : Int} (hi : i ≤ ends.length) : (putE ends i r)[j]? = if j = i then some r else ends[j]? := by
  unfold putE
  split
  · rename_i h
    rw [List.getElem?_set]
    by_cases e : i = j
    · subst e; rw [if_pos rfl, if_pos h, if_pos rfl]
    · rw [if_neg e, if_neg fun z => e z.symm]
  · rename_i h
    have e : i = ends.length := by omega
    subst e
    rw [List.getElem?_append]
    by_cases e : j < ends.length
    · rw [if_pos e, if_neg (by omega)]
    · rw [if_neg e]
      by_cases e2 : j = ends.length
      · subst e2; rw [if_pos rfl, Nat.sub_self]; rfl
      · rw [if_neg e2, List.getElem?_eq_none (by simp; omega), List.getElem?_eq_none (by omega)]
theorem LayInv.step {q : List Tri} {st : Lay} {x : Tri} (I : LayInv q st) (hx : x.1 ≤ x.2.1) (hq : ∀ y ∈ q, y.1 ≤ x.1) : LayInv (q ++ [x]) (layS st x) := by
  have hs := slotE_le (ends := st.1) (l := x.1)
  have hmem : ∀ y ∈ st.2, y.1 ∈ q := fun y hy => by rw [← I.items]; exact List.mem_map.mpr ⟨y, hy, rfl⟩
  have hlen : (putE st.1 (slotE st.1 x.1) x.2.1).length = if slotE st.1 x.1 < st.1.length then st.1.length else st.1.length + 1 := putE_len
  have hend : ∀ e, st.1[slotE st.1 x.1]? = some e → e < x.1 := fun e he => slotE_at he
  have hcr : ∀ c, crowd q c ≤ crowd (q ++ [x]) c := fun c => by
    unfold crowd
    rw [List.filter_append, List.length_append]
    omega
  refine ⟨by show (st.2 ++ [(x, slotE st.1 x.1)]).map _ = _; rw [List.map_append, I.items]; rfl, fun y hy => ?_, fun i hi => ?_, fun y hy e he => ?_, ?_, fun hn => ?_⟩
  · show y.2 < (putE _ _ _).length
    rw [hlen]
    rcases List.mem_append.mp hy with z | z
    · have := I.lt y z
      split <;> omega
    · rw [List.mem_singleton] at z
      subst z
      show slotE st.1 x.1 < _
      split <;> omega
  · have hi : i < (putE st.1 (slotE st.1 x.1) x.2.1).length := hi
    rw [hlen] at hi
    show ∃ y ∈ st.2 ++ [(x, slotE st.1 x.1)], y.2 = i ∧ (putE _ _ _)[i]? = _
    by_cases e : i = slotE st.1 x.1
    · exact ⟨(x, slotE st.1 x.1), by simp, e.symm, by rw [putE_get hs, if_pos e]⟩
    · obtain ⟨y, h1, h2, h3⟩ := I.last i (by split at hi <;> omega)
      exact ⟨y, List.mem_append_left _ h1, h2, by rw [putE_get hs, if_neg e]; exact h3⟩
  · have he : (putE st.1 (slotE st.1 x.1) x.2.1)[y.2]? = some e := he
    rw [putE_get hs] at he
    rcases List.mem_append.mp hy with z | z
    · split at he
      · rename_i e2
        cases he
        obtain ⟨e3, h3⟩ : ∃ e3, st.1[y.2]? = some e3 := ⟨_, List.getElem?_eq_getElem (I.lt y z)⟩
        have h4 := I.upto y z e3 h3
        rw [e2] at h3
        have := hend e3 h3
        omega
      · exact I.upto y z e he
    · rw [List.mem_singleton] at z
      subst z
      rw [if_pos rfl] at he
      cases he
      exact Int.le_refl _
  · show (st.2 ++ [(x, slotE st.1 x.1)]).Pairwise _
    rw [List.pairwise_append]
    refine ⟨I.apart, List.pairwise_singleton _ _, fun y hy z hz e => ?_⟩
    rw [List.mem_singleton] at hz
    subst hz
    obtain ⟨e3, h3⟩ : ∃ e3, st.1[y.2]? = some e3 := ⟨_, List.getElem?_eq_getElem (I.lt y hy)⟩
    have h4 := I.upto y hy e3 h3
    rw [show y.2 = slotE st.1 x.1 from e] at h3
    have := hend e3 h3
    show y.1.2.1 < x.1
    omega
  · show ∃ x' ∈ q ++ [x], (putE _ _ _).length ≤ _
    rw [hlen]
    split
    · rename_i h
      obtain ⟨x', h1, h2⟩ := I.wit (by omega)
      exact ⟨x', List.mem_append_left _ h1, Nat.le_trans h2 (hcr _)⟩
    · rename_i h
      refine ⟨x, by simp, ?_⟩
      have e : crowd (q ++ [x]) x.1 = crowd q x.1 + 1 := by
        unfold crowd
        rw [List.filter_append, List.length_append]
        have : [x].filter (inT x.1) = [x] := by
          rw [List.filter_cons, if_pos (inT_iff.mpr ⟨Int.le_refl _, hx⟩)]
          rfl
        rw [this]
        rfl
      rw [e, crowd_zip I.items]
      have := nodup_len (ks := (st.2.filter fun y => inT x.1 y.1).map (·.2)) (List.nodup_range (n := st.1.length)) fun i hi => by
        have hi := List.mem_range.mp hi
        obtain ⟨y, h1, h2, h3⟩ := I.last i hi
        obtain ⟨e4, h4, h5⟩ := slotE_lt (ends := st.1) (l := x.1) (i := i) (by omega)
        rw [h3] at h4
        cases h4
        exact List.mem_map.mpr ⟨y, List.mem_filter.mpr ⟨h1, inT_iff.mpr ⟨hq _ (hmem y h1), h5⟩⟩, h2⟩
      rw [List.length_map, List.length_range] at this
      omega
theorem LayInv.nil : LayInv [] ([], []) := ⟨rfl, fun y hy => (by cases hy), fun i hi => absurd hi (Nat.not_lt_zero _), fun y hy => (by cases hy), List.Pairwise.nil, fun h => absurd rfl h⟩
theorem layF_snoc (q : List Tri) (x : Tri) : layF (q ++ [x]) = layS (layF q) x := by
  unfold layF
  rw [List.foldl_append]
  rfl
theorem layF_inv {o : List Tri} (hp : o.Pairwise fun a b => a.1 ≤ b.1) (hx : ∀ x ∈ o, x.1 ≤ x.2.1) : ∀ n, n ≤ o.length → LayInv (o.take n) (layF (o.take n)) := by
  intro n
  induction n with
  | zero =>
    intro _
    rw [List.take_zero]
    exact .nil
  | succ n ih =>
    intro hn
    obtain ⟨x, h⟩ : ∃ x, o[n]? = some x := ⟨_, List.getElem?_eq_getElem (by omega)⟩
    have e : o.take (n + 1) = o.take n ++ [x] := by rw [List.take_add_one, h]; rfl
    rw [e, layF_snoc]
    refine (ih (by omega)).step (hx x (List.mem_of_getElem? h)) fun y hy => ?_
    obtain ⟨m, h1, h2⟩ : ∃ m, m < n ∧ o[m]? = some y := by
      obtain ⟨m, hm⟩ := List.mem_iff_getElem?.mp hy
      rw [List.getElem?_take] at hm
      split at hm
      · exact ⟨m, by assumption, hm⟩
      · cases hm
    obtain ⟨g1, e1⟩ := List.getElem?_eq_some_iff.mp h2
    obtain ⟨g2, e2⟩ := List.getElem?_eq_some_iff.mp h
    have := List.pairwise_iff_getElem.mp hp m n g1 g2 h1
    rw [e1, e2] at this
    exact this
theorem layF_ok {o : List Tri} (hp : o.Pairwise fun a b => a.1 ≤ b.1) (hx : ∀ x ∈ o, x.1 ≤ x.2.1) : LayInv o (layF o) := by
  have := layF_inv hp hx o.length (Nat.le_refl _)
  rwa [List.take_length] at this
/-! ### numbers of a group -/
theorem mem_sel {ps : List Pc} {lv : List Int} {L w : Int} {x : Tri} : x ∈ selF ps lv L w ↔ ∃ a, ps[x.2.2]? = some a ∧ lv[x.2.2]? = some L ∧ a.w = w ∧ x.1 = a.l ∧ x.2.1 = a.r := by
  unfold selF
  rw [List.mem_map]
  constructor
  · rintro ⟨y, hy, rfl⟩
    obtain ⟨h1, h2⟩ := List.mem_filter.mp hy
    rw [Bool.and_eq_true, decide_eq_true_eq, decide_eq_true_eq] at h2
    obtain ⟨i, hi⟩ := List.mem_iff_getElem?.mp h1
    rw [List.getElem?_zipIdx, Option.map_eq_some_iff] at hi
    obtain ⟨z, hz, rfl⟩ := hi
    rw [List.getElem?_zip_eq_some] at hz
    simp only [Nat.zero_add] at h1 h2 ⊢
    exact ⟨z.1, hz.1, by rw [hz.2, ← h2.1], h2.2, rfl, rfl⟩
  · rintro ⟨a, h1, h2, h3, h4, h5⟩
    refine ⟨((a, L), x.2.2), List.mem_filter.mpr ⟨?_, by simp [h3]⟩, ?_⟩
    · refine List.mem_iff_getElem?.mpr ⟨x.2.2, ?_⟩
      have q : (ps.zip lv)[x.2.2]? = some (a, L) := by rw [List.getElem?_zip_eq_some]; exact ⟨h1, h2⟩
      rw [List.getElem?_zipIdx, q]
      simp
    · show (a.l, a.r, x.2.2) = x
      rw [← h4, ← h5]
theorem sel_nd (ps : List Pc) (lv : List Int) (L w : Int) : ((selF ps lv L w).map (·.2.2)).Nodup := by
  unfold selF
  rw [List.map_map]
  have e : ((fun x : Tri => x.2.2) ∘ fun x : (Pc × Int) × Nat => (x.1.1.l, x.1.1.r, x.2)) = fun x => x.2 := rfl
  rw [e]
  refine List.Nodup.sublist (List.filter_sublist.map _) ?_
  rw [List.zipIdx_map_snd]
  exact List.nodup_range'
theorem mem_ord {ps : List Pc} {lv : List Int} {L w : Int} {x : Tri} : x ∈ ordF ps lv L w ↔ x ∈ selF ps lv L w := (sortTri_perm _).mem_iff
theorem ord_nd (ps : List Pc) (lv : List Int) (L w : Int) : ((ordF ps lv L w).map (·.2.2)).Nodup := ((sortTri_perm _).map _).nodup_iff.mpr (sel_nd ps lv L w)
theorem ord_ok {ps : List Pc} (h : ∀ a ∈ ps, a.l ≤ a.r) (lv : List Int) (L w : Int) : LayInv (ordF ps lv L w) (layF (ordF ps lv L w)) := by
  refine layF_ok (sortTri_pair _) fun x hx => ?_
  obtain ⟨a, h1, _, _, h4, h5⟩ := mem_sel.mp (mem_ord.mp hx)
  rw [h4, h5]
  exact h a (List.mem_of_getElem? h1)
theorem sel_none {ps : List Pc} {lv : List Int} {L w : Int} (h : L ∉ lv) : selF ps lv L w = [] := by
  refine List.eq_nil_iff_forall_not_mem.mpr fun x hx => ?_
  obtain ⟨a, _, h2, _⟩ := mem_sel.mp hx
  exact h (List.mem_of_getElem? h2)
theorem stepW_none {ps : List Pc} {lv : List Int} {L w : Int} {st : Sg} (h : L ∉ lv) : stepW ps lv L st w = st := by
  unfold stepW ordF
  rw [sel_none h]
  have e0 : sortTri [] = [] := by unfold sortTri; rw [List.mergeSort_nil]
  rw [e0]
  show (st.1 + ((0 : Nat) : Int) * w, st.2) = st
  rw [show ((0 : Nat) : Int) * w = 0 from Int.zero_mul w, Int.add_zero]
theorem stepL_none {ps : List Pc} {lv : List Int} {L : Int} {st : Sg} (h : L ∉ lv) : stepL ps lv st L = st := by
  unfold stepL
  simp only [List.foldl_cons, List.foldl_nil, stepW_none h]
theorem foldl_skip {ps : List Pc} {lv : List Int} : ∀ (Ls : List Int) (st : Sg), Ls.foldl (stepL ps lv) st = (Ls.filter fun L => decide (L ∈ lv)).foldl (stepL ps lv) st
  | [], _ => rfl
  | L :: Ls, st => by
    rw [List.foldl_cons, List.filter_cons]
    split
    · rw [List.foldl_cons]
      exact foldl_skip Ls _
    · rename_i h
      rw [stepL_none (by simpa using h)]
      exact foldl_skip Ls _
/-- two rising rows of the same numbers are one -/
theorem rise_ext : ∀ {xs ys : List Int}, xs.Pairwise (· < ·) → ys.Pairwise (· < ·) → (∀ j, j ∈ xs ↔ j ∈ ys) → xs = ys
  | [], [], _, _, _ => rfl
  | [], y :: ys, _, _, h => absurd ((h y).mpr List.mem_cons_self) List.not_mem_nil
  | x :: xs, [], _, _, h => absurd ((h x).mp List.mem_cons_self) List.not_mem_nil
  | x :: xs, y :: ys, h1, h2, h => by
    obtain ⟨a1, a2⟩ := List.pairwise_cons.mp h1
    obtain ⟨b1, b2⟩ := List.pairwise_cons.mp h2
    have e : x = y := by
      rcases List.mem_cons.mp ((h x).mp List.mem_cons_self) with z | z
      · exact z
      · rcases List.mem_cons.mp ((h y).mpr List.mem_cons_self) with q | q
        · exact q.symm
        · have := b1 x z
          have := a1 y q
          omega
    subst e
    rw [rise_ext a2 b2 fun j => ?_]
    constructor
    · intro hj
      rcases List.mem_cons.mp ((h j).mp (List.mem_cons_of_mem _ hj)) with z | z
      · subst z
        have := a1 j hj
        omega
      · exact z
    · intro hj
      rcases List.mem_cons.mp ((h j).mpr (List.mem_cons_of_mem _ hj)) with z | z
      · subst z
        have := b1 j hj
        omega
      · exact z
theorem foldl_max_ge : ∀ (l : List Int) (m : Int), m ≤ l.foldl max m ∧ ∀ x ∈ l, x ≤ l.foldl max m
  | [], m => ⟨Int.le_refl _, fun x hx => by cases hx⟩
  | y :: l, m => by
    obtain ⟨h1, h2⟩ := foldl_max_ge l (max m y)
    rw [List.foldl_cons]
    refine ⟨by omega, fun x hx => ?_⟩
    rcases List.mem_cons.mp hx with z | z
    · subst z; omega
    · exact h2 x z
theorem rngI_pair (n : Nat) : (rngI n).Pairwise (· < ·) := by
  unfold rngI
  rw [List.pairwise_map]
  exact List.pairwise_lt_range.imp fun h => by omega
theorem mem_rngI {n : Nat} {x : Int} : x ∈ rngI n ↔ 0 ≤ x ∧ x < n := by
  unfold rngI
  rw [List.mem_map]
  constructor
  · rintro ⟨i, hi, rfl⟩
    have := List.mem_range.mp hi
    omega
  · rintro ⟨h1, h2⟩
    exact ⟨x.toNat, List.mem_range.mpr (by omega), by omega⟩
/-- by the levels that are there alone -/
theorem levF_rise {ps : List Pc} {lv zs : List Int} (h0 : ∀ x ∈ lv, 0 ≤ x) (hz : zs.Pairwise (· < ·)) (hm : ∀ x, x ∈ zs ↔ x ∈ lv) : levF ps lv (rngI (maxL lv + 1).toNat) = levF ps lv zs := by
  unfold levF
  rw [foldl_skip]
  have e : ((rngI (maxL lv + 1).toNat).filter fun L => decide (L ∈ lv)) = zs := by
    refine rise_ext ((rngI_pair _).sublist List.filter_sublist) hz fun j => ?_
    rw [List.mem_filter, mem_rngI, hm, decide_eq_true_eq]
    refine ⟨fun h => h.2, fun h => ⟨?_, h⟩⟩
    have h1 := h0 j h
    have h2 := (foldl_max_ge lv (-1)).2 j h
    unfold maxL
    omega
  rw [e]
/-! ### the count -/
theorem setsF_len (b w : Int) : ∀ (pl : List (Tri × Nat)) (tr : List Int), (setsF b w pl tr).length = tr.length
  | [], _ => rfl
  | y :: pl, tr => by
    show (setsF b w pl (tr.set _ _)).length = _
    rw [setsF_len b w pl, List.length_set]
theorem setsF_out (b w : Int) {k : Nat} : ∀ (pl : List (Tri × Nat)) (tr : List Int), (∀ y ∈ pl, y.1.2.2 ≠ k) → (setsF b w pl tr)[k]? = tr[k]?
  | [], _, _ => rfl
  | y :: pl, tr, h => by
    show (setsF b w pl (tr.set _ _))[k]? = _
    rw [setsF_out b w pl _ fun z hz => h z (List.mem_cons_of_mem _ hz), List.getElem?_set_ne (h y List.mem_cons_self)]
theorem setsF_in (b w : Int) {y : Tri × Nat} : ∀ (pl : List (Tri × Nat)) (tr : List Int), (pl.map (·.1.2.2)).Nodup → y ∈ pl → y.1.2.2 < tr.length → (setsF b w pl tr)[y.1.2.2]? = some (b + y.2 * w)
  | [], _, _, h, _ => by cases h
  | z :: pl, tr, nd, h, hl => by
    obtain ⟨n1, n2⟩ := List.nodup_cons.mp (show (z.1.2.2 :: pl.map (·.1.2.2)).Nodup from nd)
    show (setsF b w pl (tr.set _ _))[y.1.2.2]? = _
    rcases List.mem_cons.mp h with e | e
    · subst e
      rw [setsF_out b w pl _ fun z hz e => n1 (List.mem_map.mpr ⟨z, hz, e⟩), List.getElem?_set_self hl]
    · exact setsF_in b w pl _ n2 e (by rw [List.length_set]; exact hl)
structure GI (ps : List Pc) (dn : Nat → Prop) (st : Sg) : Prop where
  len : st.2.length = ps.length
  b0 : 0 ≤ st.1
  lo : ∀ x ∈ st.2, 0 ≤ x
  hi : ∀ (k : Nat) (a : Pc) (x : Int), dn k → ps[k]? = some a → st.2[k]? = some x → x + a.w ≤ st.1
  wit : st.1 = 0 ∨ ∃ (k : Nat) (a : Pc) (x : Int), dn k ∧ ps[k]? = some a ∧ st.2[k]? = some x ∧ x + a.w = st.1
theorem GI.step {ps : List Pc} {lv : List Int} {L w : Int} {dn : Nat → Prop} {st : Sg} (G : GI ps dn st) (hlr : ∀ a ∈ ps, a.l ≤ a.r) (hw : 0 ≤ w) (hf : ∀ k, dn k → ¬ (lv[k]? = some L ∧ ∃ a, ps[k]? = some a ∧ a.w = w)) :
    GI ps (fun k => dn k ∨ (lv[k]? = some L ∧ ∃ a, ps[k]? = some a ∧ a.w = w)) (stepW ps lv L st w) := by
  have I := ord_ok hlr lv L w
  have nd := ord_nd ps lv L w
  have hn := ordF ps lv L w
  have hmem : ∀ y ∈ (layF (ordF ps lv L w)).2, ∃ a, ps[y.1.2.2]? = some a ∧ lv[y.1.2.2]? = some L ∧ a.w = w := fun y hy => by
    have h : y.1 ∈ ordF ps lv L w := by rw [← I.items]; exact List.mem_map.mpr ⟨y, hy, rfl⟩
    obtain ⟨a, h1, h2, h3, _⟩ := mem_sel.mp (mem_ord.mp h)
    exact ⟨a, h1, h2, h3⟩
  have hall : ∀ (k : Nat) (a : Pc), ps[k]? = some a → lv[k]? = some L → a.w = w → ∃ y ∈ (layF (ordF ps lv L w)).2, y.1.2.2 = k := fun k a h1 h2 h3 => by
    have h : (a.l, a.r, k) ∈ ordF ps lv L w := mem_ord.mpr (mem_sel.mpr ⟨a, h1, h2, h3, rfl, rfl⟩)
    rw [← I.items] at h
    obtain ⟨y, hy, e⟩ := List.mem_map.mp h
    exact ⟨y, hy, by rw [e]⟩
  have nd2 : ((layF (ordF ps lv L w)).2.map (·.1.2.2)).Nodup := by
    have e : (layF (ordF ps lv L w)).2.map (·.1.2.2) = ((layF (ordF ps lv L w)).2.map (·.1)).map (·.2.2) := by rw [List.map_map]; rfl
    rw [e, I.items]
    exact nd
  have hin : ∀ y ∈ (layF (ordF ps lv L w)).2, (setsF st.1 w (layF (ordF ps lv L w)).2 st.2)[y.1.2.2]? = some (st.1 + y.2 * w) := fun y hy => by
    obtain ⟨a, h1, _⟩ := hmem y hy
    exact setsF_in _ _ _ _ nd2 hy (by rw [G.len]; exact (List.getElem?_eq_some_iff.mp h1).1)
  have hmul : ∀ i n : Nat, i < n → (i : Int) * w + w ≤ (n : Int) * w := fun i n h => by
    have e : ((i : Int) + 1) * w ≤ (n : Int) * w := Int.mul_le_mul_of_nonneg_right (by omega) hw
    rwa [Int.add_mul, Int.one_mul] at e
  have hm0 : ∀ i : Nat, 0 ≤ (i : Int) * w := fun i => Int.mul_nonneg (by omega) hw
  unfold stepW
  generalize hZ : layF (ordF ps lv L w) = Z at *
  show GI ps _ (st.1 + Z.1.length * w, setsF st.1 w Z.2 st.2)
  refine ⟨by rw [setsF_len]; exact G.len, ?_, fun x hx => ?_, fun k a x hk ha hx => ?_, ?_⟩
  · have := G.b0
    have := hm0 Z.1.length
    show 0 ≤ st.1 + Z.1.length * w
    omega
  · obtain ⟨k, hk⟩ := List.mem_iff_getElem?.mp hx
    by_cases e : ∃ y ∈ Z.2, y.1.2.2 = k
    · obtain ⟨y, hy, rfl⟩ := e
      rw [hin y hy] at hk
      cases hk
      have := G.b0
      have := hm0 y.2
      omega
    · rw [setsF_out _ _ _ _ fun y hy z => e ⟨y, hy, z⟩] at hk
      exact G.lo x (List.mem_of_getElem? hk)
  · have h0 := hm0 Z.1.length
    rcases hk with hk | ⟨h1, a', h2, h3⟩
    · have hx : (setsF st.1 w Z.2 st.2)[k]? = some x := hx
      rw [setsF_out _ _ _ _ fun y hy z => hf k hk (by obtain ⟨a', q1, q2, q3⟩ := hmem y hy; rw [z] at q1 q2; exact ⟨q2, a', q1, q3⟩)] at hx
      have := G.hi k a x hk ha hx
      show x + a.w ≤ st.1 + Z.1.length * w
      omega
    · rw [ha] at h2
      cases h2
      obtain ⟨y, hy, rfl⟩ := hall k a ha h1 h3
      have hx : (setsF st.1 w Z.2 st.2)[y.1.2.2]? = some x := hx
      rw [hin y hy] at hx
      cases hx
      have := hmul y.2 Z.1.length (I.lt y hy)
      show st.1 + y.2 * w + a.w ≤ st.1 + Z.1.length * w
      omega
  · by_cases e : Z.1.length = 0
    · rw [e]
      have e0 : st.1 + ((0 : Nat) : Int) * w = st.1 := by rw [show ((0 : Nat) : Int) * w = 0 from Int.zero_mul w, Int.add_zero]
      show st.1 + ((0 : Nat) : Int) * w = 0 ∨ _
      rcases G.wit with z | ⟨k, a, x, h1, h2, h3, h4⟩
      · left; rw [e0]; exact z
      · right
        refine ⟨k, a, x, .inl h1, h2, ?_, h4.trans e0.symm⟩
        show (setsF st.1 w Z.2 st.2)[k]? = _
        rw [setsF_out _ _ _ _ fun y hy z => hf k h1 (by obtain ⟨a', q1, q2, q3⟩ := hmem y hy; rw [z] at q1 q2; exact ⟨q2, a', q1, q3⟩)]
        exact h3
    · right
      obtain ⟨y, hy, h1, _⟩ := I.last (Z.1.length - 1) (by omega)
      obtain ⟨a, q1, q2, q3⟩ := hmem y hy
      refine ⟨y.1.2.2, a, _, .inr ⟨q2, a, q1, q3⟩, q1, hin y hy, ?_⟩
      have e2 : (Z.1.length : Int) = (y.2 : Int) + 1 := by omega
      show st.1 + y.2 * w + a.w = st.1 + (Z.1.length : Int) * w
      rw [e2, Int.add_mul, Int.one_mul, q3]
      omega
theorem GI.cong {ps : List Pc} {dn dn' : Nat → Prop} {st : Sg} (G : GI ps dn st) (h : ∀ (k : Nat) (a : Pc), ps[k]? = some a → (dn k ↔ dn' k)) : GI ps dn' st :=
  ⟨G.len, G.b0, G.lo, fun k a x h1 h2 h3 => G.hi k a x ((h k a h2).mpr h1) h2 h3, G.wit.imp id fun ⟨k, a, x, h1, h2, h3, h4⟩ => ⟨k, a, x, (h k a h2).mp h1, h2, h3, h4⟩⟩
theorem GI.level {ps : List Pc} {lv : List Int} {L : Int} {dn : Nat → Prop} {st : Sg} (G : GI ps dn st) (hlr : ∀ a ∈ ps, a.l ≤ a.r) (hw : ∀ a ∈ ps, 1 ≤ a.w ∧ a.w ≤ 3) (hf : ∀ k, dn k → lv[k]? ≠ some L) :
    GI ps (fun k => dn k ∨ lv[k]? = some L) (stepL ps lv st L) := by
  have G1 := G.step (lv := lv) (L := L) (w := 3) hlr (by decide) fun k h z => hf k h z.1
  have G2 := G1.step (lv := lv) (L := L) (w := 2) hlr (by decide) fun k h z => by
    obtain ⟨q1, a, q2, q3⟩ := z
    rcases h with h | ⟨_, a', h2, h3⟩
    · exact hf k h q1
    · rw [q2] at h2; cases h2; omega
  have G3 := G2.step (lv := lv) (L := L) (w := 1) hlr (by decide) fun k h z => by
    obtain ⟨q1, a, q2, q3⟩ := z
    rcases h with (h | ⟨_, a', h2, h3⟩) | ⟨_, a', h2, h3⟩
    · exact hf k h q1
    · rw [q2] at h2; cases h2; omega
    · rw [q2] at h2; cases h2; omega
  refine G3.cong fun k a ha => ?_
  have hwa := hw a (List.mem_of_getElem? ha)
  constructor
  · rintro (((h | h) | h) | h)
    · exact .inl h
    · exact .inr h.1
    · exact .inr h.1
    · exact .inr h.1
  · rintro (h | h)
    · exact .inl (.inl (.inl h))
    · rcases (show a.w = 3 ∨ a.w = 2 ∨ a.w = 1 by omega) with z | z | z
      · exact .inl (.inl (.inr ⟨h, a, ha, z⟩))
      · exact .inl (.inr ⟨h, a, ha, z⟩)
      · exact .inr ⟨h, a, ha, z⟩
theorem GI.levels {ps : List Pc} {lv : List Int} (hlr : ∀ a ∈ ps, a.l ≤ a.r) (hw : ∀ a ∈ ps, 1 ≤ a.w ∧ a.w ≤ 3) : ∀ (Ls : List Int) (dn : Nat → Prop) (st : Sg), GI ps dn st → Ls.Nodup → (∀ k L, dn k → L ∈ Ls → lv[k]? ≠ some L) →
    GI ps (fun k => dn k ∨ ∃ L ∈ Ls, lv[k]? = some L) (Ls.foldl (stepL ps lv) st)
  | [], dn, st, G, _, _ => G.cong fun k a _ => ⟨.inl, fun h => h.elim id fun ⟨L, h, _⟩ => absurd h List.not_mem_nil⟩
  | L :: Ls, dn, st, G, nd, hf => by
    obtain ⟨n1, n2⟩ := List.nodup_cons.mp nd
    have G1 := G.level hlr hw fun k h => hf k L h List.mem_cons_self
    rw [List.foldl_cons]
    refine (GI.levels hlr hw Ls _ _ G1 n2 fun k M h hM e => ?_).cong fun k a _ => ?_
    · rcases h with h | h
      · exact hf k M h (List.mem_cons_of_mem _ hM) e
      · rw [h] at e
        cases e
        exact n1 hM
    · constructor
      · rintro ((h | h) | ⟨M, h1, h2⟩)
        · exact .inl h
        · exact .inr ⟨L, List.mem_cons_self, h⟩
        · exact .inr ⟨M, List.mem_cons_of_mem _ h1, h2⟩
      · rintro (h | ⟨M, h1, h2⟩)
        · exact .inl (.inl h)
        · rcases List.mem_cons.mp h1 with z | z
          · subst z; exact .inl (.inr h2)
          · exact .inr ⟨M, z, h2⟩
theorem GI.all {ps : List Pc} {lv : List Int} (hlr : ∀ a ∈ ps, a.l ≤ a.r) (hw : ∀ a ∈ ps, 1 ≤ a.w ∧ a.w ≤ 3) (hl : lv.length = ps.length) (h0 : ∀ x ∈ lv, 0 ≤ x) : GI ps (fun _ => True) (levF ps lv (rngI (maxL lv + 1).toNat)) := by
  have G0 : GI ps (fun _ => False) (0, List.replicate ps.length 0) := ⟨List.length_replicate .., Int.le_refl _, fun x hx => by rw [List.eq_of_mem_replicate hx]; exact Int.le_refl _, fun k a x h => h.elim, .inl rfl⟩
  refine (GI.levels (lv := lv) hlr hw (rngI (maxL lv + 1).toNat) _ _ G0 ((rngI_pair _).imp fun h => by omega) fun k L h => h.elim).cong fun k a ha => ⟨fun _ => trivial, fun _ => .inr ?_⟩
  obtain ⟨x, hx⟩ : ∃ x, lv[k]? = some x := ⟨_, List.getElem?_eq_getElem (by rw [hl]; exact (List.getElem?_eq_some_iff.mp ha).1)⟩
  have h1 := h0 x (List.mem_of_getElem? hx)
  have h2 := (foldl_max_ge lv (-1)).2 x (List.mem_of_getElem? hx)
  exact ⟨x, mem_rngI.mpr ⟨h1, by unfold maxL; omega⟩, hx⟩
/-- what count_of tells -/
def IsCount (ps : List Pc) (tr : List Int) (m : Int) : Prop := (ps = [] ∧ m = 0) ∨ ((∃ (k : Nat) (a : Pc) (x : Int), ps[k]? = some a ∧ tr[k]? = some x ∧ m = x + a.w) ∧ ∀ (k : Nat) (a : Pc) (x : Int), ps[k]? = some a → tr[k]? = some x → x + a.w ≤ m)
theorem byLv_len {ps : List Pc} {lv : List Int} (hlr : ∀ a ∈ ps, a.l ≤ a.r) (hw : ∀ a ∈ ps, 1 ≤ a.w ∧ a.w ≤ 3) (hl : lv.length = ps.length) (h0 : ∀ x ∈ lv, 0 ≤ x) : (byLv ps lv).length = ps.length := (GI.all hlr hw hl h0).len
theorem byLv_count {ps : List Pc} {lv : List Int} {m : Int} (hne : ps ≠ []) (hlr : ∀ a ∈ ps, a.l ≤ a.r) (hw : ∀ a ∈ ps, 1 ≤ a.w ∧ a.w ≤ 3) (hl : lv.length = ps.length) (h0 : ∀ x ∈ lv, 0 ≤ x) (h : IsCount ps (byLv ps lv) m) : m = bndF ps lv := by
  have G := GI.all hlr hw hl h0
  rcases h with ⟨h, _⟩ | ⟨⟨k, a, x, h1, h2, rfl⟩, h3⟩
  · exact absurd h hne
  · have q1 := G.hi k a x trivial h1 h2
    rcases G.wit with z | ⟨k', a', x', _, g1, g2, g3⟩
    · have := G.lo x (List.mem_of_getElem? h2)
      have := hw a (List.mem_of_getElem? h1)
      omega
    · have := h3 k' a' x' g1 g2
      show x + a.w = (levF ps lv (rngI (maxL lv + 1).toNat)).1
      omega
/-! ### strip by strip -/
def stripsF (Z : Lay) : List (List Nat) := (List.range Z.1.length).map fun i => (Z.2.filter fun y => y.2 == i).map (·.1.2.2)
def upF (b w : Int) (pl : List (Tri × Nat)) (tr : List Int) : Nat → List Int
  | 0 => tr
  | i + 1 => setsF b w (pl.filter fun y => y.2 == i) (upF b w pl tr i)
theorem upF_len {b w : Int} {pl : List (Tri × Nat)} {tr : List Int} : ∀ i, (upF b w pl tr i).length = tr.length
  | 0 => rfl
  | i + 1 => by rw [upF, setsF_len, upF_len i]
theorem upF_get {b w : Int} {pl : List (Tri × Nat)} {tr : List Int} (nd : (pl.map (·.1.2.2)).Nodup) (k : Nat) : ∀ i, (∀ y ∈ pl, y.1.2.2 = k → y.2 < i → k < tr.length → (upF b w pl tr i)[k]? = some (b + y.2 * w)) ∧ ((∀ y ∈ pl, y.1.2.2 = k → ¬ y.2 < i) → (upF b w pl tr i)[k]? = tr[k]?)
  | 0 => ⟨fun y _ _ h => absurd h (Nat.not_lt_zero _), fun _ => rfl⟩
  | i + 1 => by
    obtain ⟨h1, h2⟩ := upF_get (b := b) (w := w) (tr := tr) nd k i
    have nd2 : ((pl.filter fun y => y.2 == i).map (·.1.2.2)).Nodup := List.Nodup.sublist (List.filter_sublist.map _) nd
    have uniq : ∀ y ∈ pl, ∀ z ∈ pl, y.1.2.2 = z.1.2.2 → y = z := fun y hy z hz e => by
      obtain ⟨p, hp⟩ := List.mem_iff_getElem?.mp hy
      obtain ⟨q, hq⟩ := List.mem_iff_getElem?.mp hz
      have a1 : (pl.map (·.1.2.2))[p]? = some y.1.2.2 := by rw [List.getElem?_map, hp]; rfl
      have a2 : (pl.map (·.1.2.2))[q]? = some y.1.2.2 := by rw [List.getElem?_map, hq, e]; rfl
      obtain ⟨g1, e1⟩ := List.getElem?_eq_some_iff.mp a1
      obtain ⟨g2, e2⟩ := List.getElem?_eq_some_iff.mp a2
      have pq : p = q := by
        have hpw := List.pairwise_iff_getElem.mp nd
        rcases Nat.lt_trichotomy p q with z | z | z
        · exact absurd (e1.trans e2.symm) (hpw p q g1 g2 z)
        · exact z
        · exact absurd (e2.trans e1.symm) (hpw q p g2 g1 z)
      rw [pq, hq] at hp
      exact (Option.some.inj hp).symm
    refine ⟨fun y hy hk hlt hl => ?_, fun hno => ?_⟩
    · rw [upF]
      by_cases e : y.2 = i
      · subst hk
        exact setsF_in b w _ _ nd2 (List.mem_filter.mpr ⟨hy, by simp [e]⟩) (by rw [upF_len]; exact hl)
      · rw [setsF_out b w _ _ fun z hz e2 => by
          obtain ⟨z1, z2⟩ := List.mem_filter.mp hz
          have := uniq y hy z z1 (hk.trans e2.symm)
          subst this
          exact e (by simpa using z2)]
        exact h1 y hy hk (by omega) hl
    · rw [upF, setsF_out b w _ _ fun z hz e2 => by
        obtain ⟨z1, z2⟩ := List.mem_filter.mp hz
        have : z.2 = i := by simpa using z2
        exact hno z z1 e2 (by omega)]
      exact h2 fun y hy hk hlt => hno y hy hk (by omega)
theorem upF_all {b w : Int} {pl : List (Tri × Nat)} {tr : List Int} {n : Nat} (nd : (pl.map (·.1.2.2)).Nodup) (hn : ∀ y ∈ pl, y.2 < n) (hl : ∀ y ∈ pl, y.1.2.2 < tr.length) : upF b w pl tr n = setsF b w pl tr := by
  refine List.ext_getElem? fun k => ?_
  obtain ⟨h1, h2⟩ := upF_get (b := b) (w := w) (tr := tr) nd k n
  by_cases e : ∃ y ∈ pl, y.1.2.2 = k
  · obtain ⟨y, hy, rfl⟩ := e
    rw [h1 y hy rfl (hn y hy) (hl y hy), setsF_in b w _ _ nd hy (hl y hy)]
  · rw [h2 fun y hy hk => absurd ⟨y, hy, hk⟩ e, setsF_out b w _ _ fun y hy hk => e ⟨y, hy, hk⟩]
theorem stripsF_step {Z : Lay} {x : Tri} (hlt : ∀ y ∈ Z.2, y.2 < Z.1.length) (hs : slotE Z.1 x.1 < Z.1.length) : stripsF (layS Z x) = (stripsF Z).set (slotE Z.1 x.1) (((stripsF Z).getD (slotE Z.1 x.1) []) ++ [x.2.2]) := by
  refine List.ext_getElem? fun k => ?_
  have hl : (layS Z x).1.length = Z.1.length := by show (putE _ _ _).length = _; rw [putE_len, if_pos hs]
  unfold stripsF
  rw [hl, List.getElem?_set]
  have hgd : ((List.range Z.1.length).map fun i => (Z.2.filter fun y => y.2 == i).map (·.1.2.2)).getD (slotE Z.1 x.1) [] = (Z.2.filter fun y => y.2 == slotE Z.1 x.1).map (·.1.2.2) := by
    rw [List.getD_eq_getElem?_getD, List.getElem?_map, List.getElem?_range hs]
    rfl
  rw [hgd]
  have hf : ∀ k, ((layS Z x).2.filter fun y => y.2 == k).map (·.1.2.2) = (Z.2.filter fun y => y.2 == k).map (·.1.2.2) ++ if slotE Z.1 x.1 = k then [x.2.2] else [] := fun k => by
    show ((Z.2 ++ [(x, slotE Z.1 x.1)]).filter _).map _ = _
    rw [List.filter_append, List.map_append, List.filter_cons]
    by_cases e : slotE Z.1 x.1 = k
    · rw [if_pos e, if_pos (by simp [e])]; rfl
    · rw [if_neg e, if_neg (by simp [e])]; rfl
  by_cases hk : k < Z.1.length
  · rw [List.getElem?_map, List.getElem?_range hk]
    show some (((layS Z x).2.filter fun y => y.2 == k).map (·.1.2.2)) = _
    rw [hf]
    by_cases e : slotE Z.1 x.1 = k
    · subst e
      rw [if_pos rfl, if_pos rfl, if_pos (by rw [List.length_map, List.length_range]; exact hk)]
    · rw [if_neg e, if_neg e, List.getElem?_map, List.getElem?_range hk, List.append_nil]
      rfl
  · rw [List.getElem?_eq_none (by rw [List.length_map, List.length_range]; omega), if_neg (by omega), List.getElem?_eq_none (by rw [List.length_map, List.length_range]; omega)]
theorem stripsF_new {Z : Lay} {x : Tri} (hlt : ∀ y ∈ Z.2, y.2 < Z.1.length) (hs : slotE Z.1 x.1 = Z.1.length) : stripsF (layS Z x) = stripsF Z ++ [[x.2.2]] := by
  have hl : (layS Z x).1.length = Z.1.length + 1 := by show (putE _ _ _).length = _; rw [putE_len, if_neg (by omega)]
  unfold stripsF
  rw [hl, List.range_succ, List.map_append]
  congr 1
  · refine List.map_congr_left fun i hi => ?_
    have hi := List.mem_range.mp hi
    show ((Z.2 ++ [(x, slotE Z.1 x.1)]).filter _).map _ = _
    rw [List.filter_append, List.filter_cons, if_neg (by simp; omega)]
    simp
  · show [((Z.2 ++ [(x, slotE Z.1 x.1)]).filter _).map _] = _
    rw [List.filter_append, List.filter_eq_nil_iff.mpr fun y hy => by have := hlt y hy; simp; omega, List.filter_cons, if_pos (by simp [hs])]
    rfl
/-! ### widths of levels, by the greatest crowd -/
def lenG (ps : List Pc) (lv : List Int) (L w : Int) : Nat := (layF (ordF ps lv L w)).1.length
theorem stepL_fst (ps : List Pc) (lv : List Int) (st : Sg) (L : Int) : (stepL ps lv st L).1 = st.1 + lenG ps lv L 3 * 3 + lenG ps lv L 2 * 2 + lenG ps lv L 1 * 1 := rfl
theorem crowd_perm {o o' : List Tri} (h : o.Perm o') (c : Int) : crowd o c = crowd o' c := (h.filter _).length_eq
/-- the greatest crowd is the number of strips -/
theorem lenG_max {ps : List Pc} {lv : List Int} {L w : Int} (hlr : ∀ a ∈ ps, a.l ≤ a.r) : (∀ c, crowd (selF ps lv L w) c ≤ lenG ps lv L w) ∧ (lenG ps lv L w ≠ 0 → ∃ a ∈ ps, lenG ps lv L w ≤ crowd (selF ps lv L w) a.l) := by
  have I := ord_ok hlr lv L w
  have hc : ∀ c, crowd (ordF ps lv L w) c = crowd (selF ps lv L w) c := crowd_perm (sortTri_perm _)
  refine ⟨fun c => by rw [← hc]; exact I.le c, fun h => ?_⟩
  obtain ⟨x, hx, h2⟩ := I.wit h
  obtain ⟨a, h1, _, _, h4, _⟩ := mem_sel.mp (mem_ord.mp hx)
  exact ⟨a, List.mem_of_getElem? h1, by rw [← h4, ← hc]; exact h2⟩
def selP (ps : List Pc) (lv : List Int) (L w : Int) : List Pc := ((ps.zip lv).zipIdx.filter fun x => decide (x.1.2 = L) && decide (x.1.1.w = w)).map fun x => x.1.1
theorem crowd_selP (ps : List Pc) (lv : List Int) (L w c : Int) : crowd (selF ps lv L w) c = ((selP ps lv L w).filter fun a => decide (a.l ≤ c) && decide (c ≤ a.r)).length := by
  unfold crowd selF selP
  rw [List.filter_map, List.filter_map, List.length_map, List.length_map]
  rfl
theorem stripsF_len (Z : Lay) : (stripsF Z).length = Z.1.length := by unfold stripsF; rw [List.length_map, List.length_range]
theorem lay_le {q : List Tri} {st : Lay} (I : LayInv q st) : st.1.length ≤ q.length := by
  have h := nodup_len (ks := st.2.map (·.2)) (List.nodup_range (n := st.1.length)) fun i hi => by
    obtain ⟨y, h1, h2, _⟩ := I.last i (List.mem_range.mp hi)
    exact List.mem_map.mpr ⟨y, h1, h2⟩
  have e : st.2.length = q.length := by rw [← I.items, List.length_map]
  rw [List.length_range, List.length_map, e] at h
  exact h
theorem ord_len {ps : List Pc} {lv : List Int} {L w : Int} (h : lv.length = ps.length) : (ordF ps lv L w).length ≤ ps.length := by
  unfold ordF
  rw [(sortTri_perm _).length_eq]
  unfold selF
  rw [List.length_map]
  refine Nat.le_trans (List.length_filter_le ..) ?_
  rw [List.length_zipIdx, List.length_zip]
  omega
theorem maxL_of {lv : List Int} {m : Int} (h1 : lv = [] → m = -1) (h2 : lv ≠ [] → m ∈ lv ∧ ∀ y ∈ lv, y ≤ m) (h0 : ∀ x ∈ lv, 0 ≤ x) : m = maxL lv := by
  unfold maxL
  cases lv with
  | nil => exact h1 rfl
  | cons a l =>
    obtain ⟨g1, g2⟩ := h2 (by simp)
    have f1 := (foldl_max_ge (a :: l) (-1)).2 m g1
    have f2 : (a :: l).foldl max (-1) ∈ (a :: l) ∨ (a :: l).foldl max (-1) = -1 := by
      have : ∀ (l : List Int) (m : Int), l.foldl max m ∈ l ∨ l.foldl max m = m := by
        intro l
        induction l with
        | nil => intro m; exact .inr rfl
        | cons x l ih =>
          intro m
          rw [List.foldl_cons]
          rcases ih (max m x) with z | z
          · exact .inl (List.mem_cons_of_mem _ z)
          · rw [z]
            rcases (show max m x = x ∨ max m x = m by omega) with q | q
            · rw [q]; exact .inl List.mem_cons_self
            · exact .inr q
      exact this _ _
    rcases f2 with z | z
    · have := g2 _ z
      omega
    · have := h0 m g1
      omega
theorem maxL_bd {lv : List Int} {n : Int} (hn : -1 ≤ n) (h : ∀ x ∈ lv, x ≤ n) : -1 ≤ maxL lv ∧ maxL lv ≤ n := by
  refine ⟨(foldl_max_ge lv (-1)).1, ?_⟩
  unfold maxL
  have : ∀ (l : List Int) (m : Int), m ≤ n → (∀ x ∈ l, x ≤ n) → l.foldl max m ≤ n := by
    intro l
    induction l with
    | nil => intro m h _; exact h
    | cons x l ih =>
      intro m h1 h2
      have := h2 x List.mem_cons_self
      exact ih _ (by omega) fun y hy => h2 y (List.mem_cons_of_mem _ hy)
  exact this lv _ hn h
theorem rngI_get {n i : Nat} (h : i < n) : (rngI n)[i]? = some (i : Int) := by
  unfold rngI
  rw [List.getElem?_map, List.getElem?_range h]
  rfl
theorem levF_take {ps : List Pc} {lv Ls : List Int} {i : Nat} {L : Int} (h : Ls[i]? = some L) : levF ps lv (Ls.take (i + 1)) = stepL ps lv (levF ps lv (Ls.take i)) L := by
  unfold levF
  rw [List.take_add_one, h, List.foldl_append]
  rfl
theorem lay_items_lt {ps : List Pc} {lv : List Int} {L w : Int} (I : LayInv (ordF ps lv L w) (layF (ordF ps lv L w))) : ∀ y ∈ (layF (ordF ps lv L w)).2, y.1.2.2 < ps.length := fun y hy => by
  have h : y.1 ∈ ordF ps lv L w := by rw [← I.items]; exact List.mem_map.mpr ⟨y, hy, rfl⟩
  obtain ⟨a, h1, _⟩ := mem_sel.mp (mem_ord.mp h)
  exact (List.getElem?_eq_some_iff.mp h1).1
theorem lay_nd {ps : List Pc} {lv : List Int} {L w : Int} (I : LayInv (ordF ps lv L w) (layF (ordF ps lv L w))) : ((layF (ordF ps lv L w)).2.map (·.1.2.2)).Nodup := by
  have e : (layF (ordF ps lv L w)).2.map (·.1.2.2) = ((layF (ordF ps lv L w)).2.map (·.1)).map (·.2.2) := by rw [List.map_map]; rfl
  rw [e, I.items]
  exact ord_nd ps lv L w
def stW (ps : List Pc) (lv : List Int) (L : Int) (st : Sg) (j : Nat) : Sg := (([3, 2, 1] : List Int).take j).foldl (stepW ps lv L) st
theorem stW_step {ps : List Pc} {lv : List Int} {L : Int} {st : Sg} {j : Nat} (h : j < 3) : stW ps lv L st (j + 1) = stepW ps lv L (stW ps lv L st j) (3 + (j : Int) * -1) := by
  rcases (show j = 0 ∨ j = 1 ∨ j = 2 by omega) with z | z | z <;> (subst z; rfl)
theorem stW_len {ps : List Pc} {lv : List Int} {L : Int} {st : Sg} (h : st.2.length = ps.length) {j : Nat} (hj : j ≤ 3) : (stW ps lv L st j).2.length = ps.length := by
  induction j with
  | zero => exact h
  | succ j ih =>
    rw [stW_step (by omega)]
    show (setsF _ _ _ _).length = _
    rw [setsF_len]
    exact ih (by omega)
theorem setsF_snoc (b w : Int) (pl : List (Tri × Nat)) (y : Tri × Nat) (tr : List Int) : setsF b w (pl ++ [y]) tr = (setsF b w pl tr).set y.1.2.2 (b + y.2 * w) := by
  unfold setsF
  rw [List.foldl_append]
  rfl
theorem levF_len {ps : List Pc} {lv : List Int} : ∀ (Ls : List Int) (st : Sg), st.2.length = ps.length → (Ls.foldl (stepL ps lv) st).2.length = ps.length
  | [], _, h => h
  | L :: Ls, st, h => by
    rw [List.foldl_cons]
    exact levF_len Ls _ (stW_len (L := L) h (j := 3) (Nat.le_refl _))
theorem sel_take_succ {ps : List Pc} {lv : List Int} {L w : Int} {i : Nat} {a : Pc} {x : Int} (h1 : ps[i]? = some a) (h2 : lv[i]? = some x) :
    selF (ps.take (i + 1)) (lv.take (i + 1)) L w = selF (ps.take i) (lv.take i) L w ++ if x = L ∧ a.w = w then [(a.l, a.r, i)] else [] := by
  have e : ((ps.take (i + 1)).zip (lv.take (i + 1))).zipIdx = ((ps.take i).zip (lv.take i)).zipIdx ++ [((a, x), i)] := by
    rw [List.take_add_one, List.take_add_one, h1, h2]
    have l1 : (ps.take i).length = i := by
      have := (List.getElem?_eq_some_iff.mp h1).1
      rw [List.length_take]; omega
    have l2 : (lv.take i).length = i := by
      have := (List.getElem?_eq_some_iff.mp h2).1
      rw [List.length_take]; omega
    show ((ps.take i ++ [a]).zip (lv.take i ++ [x])).zipIdx = _
    rw [List.zip_append (by rw [l1, l2]), List.zipIdx_append, List.length_zip, l1, l2, Nat.min_self]
    simp
  unfold selF
  rw [e, List.filter_append, List.map_append]
  congr 1
  by_cases c : x = L ∧ a.w = w
  · rw [if_pos c, List.filter_cons, if_pos (by simp [c.1, c.2])]
    rfl
  · rw [if_neg c, List.filter_cons, if_neg (by simpa using c)]
    rfl
theorem putE_cut {ends : List Int} {i : Nat} {r : Int} (h : i ≤ ends.length) : ends.take i ++ [r] ++ ends.drop (i + 1) = putE ends i r := by
  refine List.ext_getElem? fun j => ?_
  rw [putE_get h]
  have l1 : (ends.take i ++ [r]).length = i + 1 := by
    rw [List.length_append, List.length_take]
    show _ + 1 = _
    omega
  rw [List.getElem?_append, l1]
  split
  · rename_i hj
    rw [List.getElem?_append, List.length_take, Nat.min_eq_left h]
    split
    · rename_i hj2
      rw [if_neg (by omega), List.getElem?_take, if_pos hj2]
    · have e : j = i := by omega
      subst e
      rw [if_pos rfl, Nat.sub_self]
      rfl
  · rename_i hj
    rw [if_neg (by omega), List.getElem?_drop]
    congr 1
    omega
theorem sortT_tri (l : List Tri) : sortT (l.map fun x => .d (triD x)) = (sortTri l).map fun x => .d (triD x) := by
  have e : l.map (fun x => T.d (triD x)) = (l.map triI).map fun xs => T.d (itD xs) := by rw [List.map_map]; rfl
  rw [e, sortT_I, sortI_tri, List.map_map]
  rfl
theorem Srt_tri {l : List Tri} (h : l.length ≤ 1000000) : Srt (l.map triD) := by
  have e : l.map triD = (l.map triI).map itD := by rw [List.map_map]; rfl
  rw [e]
  exact Srt_I (fun xs hx => by obtain ⟨y, _, rfl⟩ := List.mem_map.mp hx; intro z; cases z) (by rw [List.length_map]; exact h)
theorem selP_take_succ {ps : List Pc} {lv : List Int} {L w : Int} {i : Nat} {a : Pc} {x : Int} (h1 : ps[i]? = some a) (h2 : lv[i]? = some x) :
    selP (ps.take (i + 1)) (lv.take (i + 1)) L w = selP (ps.take i) (lv.take i) L w ++ if x = L ∧ a.w = w then [a] else [] := by
  have e : ((ps.take (i + 1)).zip (lv.take (i + 1))).zipIdx = ((ps.take i).zip (lv.take i)).zipIdx ++ [((a, x), i)] := by
    rw [List.take_add_one, List.take_add_one, h1, h2]
    have l1 : (ps.take i).length = i := by
      have := (List.getElem?_eq_some_iff.mp h1).1
      rw [List.length_take]; omega
    have l2 : (lv.take i).length = i := by
      have := (List.getElem?_eq_some_iff.mp h2).1
      rw [List.length_take]; omega
    show ((ps.take i ++ [a]).zip (lv.take i ++ [x])).zipIdx = _
    rw [List.zip_append (by rw [l1, l2]), List.zipIdx_append, List.length_zip, l1, l2, Nat.min_self]
    simp
  unfold selP
  rw [e, List.filter_append, List.map_append]
  congr 1
  by_cases c : x = L ∧ a.w = w
  · rw [if_pos c, List.filter_cons, if_pos (by simp [c.1, c.2])]
    rfl
  · rw [if_neg c, List.filter_cons, if_neg (by simpa using c)]
    rfl
theorem selF_len {ps : List Pc} {lv : List Int} {L w : Int} (h : lv.length = ps.length) : (selF ps lv L w).length ≤ ps.length := by
  rw [← (sortTri_perm _).length_eq]
  exact ord_len h
theorem selP_len {ps : List Pc} {lv : List Int} {L w : Int} (h : lv.length = ps.length) : (selP ps lv L w).length ≤ ps.length := by
  have e : (selP ps lv L w).length = (selF ps lv L w).length := by unfold selP selF; rw [List.length_map, List.length_map]
  rw [e]
  exact selF_len h
end WC

namespace WCk
open PySem PySem.Spec PyProof.Rows L2 WC
local macro_rules | `(tactic| walk_at "wp") => `(tactic| conv => whnf)
local macro_rules | `(tactic| walk_at "cnd") => `(tactic| first | (show (0:Int) < _; first | decide | omega) | (apply cmul_l <;> omega) | (apply cmul_r <;> omega) | (exact ⟨by omega, by omega⟩) | omega | decide)
local macro_rules | `(tactic| walk_at "tk") => `(tactic| refine ⟨_, _, _, _, rfl, by omega, by omega, by omega, by omega, by omega, by omega, by omega, ?_⟩)
local macro_rules | `(tactic| walk_at "go") => `(tactic| (repeat ((conv => whnf); refine And.intro (by walk_at "cnd") ?_)); conv => whnf)
def topS (i : Nat) : Stmt := PySem.Challenge.pw_wirechannel_k39_levels_far_apart.main.body.getD i (.Pass ⟨0, 0, 0, 0⟩)
abbrev s_count_of : Stmt := topS 2
abbrev s_chosen_order : Stmt := topS 3
abbrev s_strips_of : Stmt := topS 4
abbrev s_by_levels : Stmt := topS 5
abbrev s_greatest_crowd : Stmt := topS 6
abbrev s_bound_of : Stmt := topS 7
abbrev s_law_box : Stmt := topS 9
abbrev s_law_take : Stmt := topS 10
abbrev s_law_folded : Stmt := topS 11
abbrev s_law_word : Stmt := topS 12
abbrev s_law_names : Stmt := topS 13
abbrev s_law_pieces : Stmt := topS 14
abbrev s_law_levels_due : Stmt := topS 15
abbrev s_law_bound : Stmt := topS 16
abbrev s_law : Stmt := topS 17
structure Tx (K : PySem.W.Frag) (mg : Str → Option Value) where
  b_abs : mg "abs" = none
  b_bool : mg "bool" = none
  b_dict : mg "dict" = none
  b_divmod : mg "divmod" = none
  b_enumerate : mg "enumerate" = none
  b_int : mg "int" = none
  b_isinstance : mg "isinstance" = none
  b_len : mg "len" = none
  b_list : mg "list" = none
  b_max : mg "max" = none
  b_min : mg "min" = none
  b_range : mg "range" = none
  b_set : mg "set" = none
  b_sorted : mg "sorted" = none
  b_str : mg "str" = none
  b_zip : mg "zip" = none
  u_WIDEST : Value
  g_WIDEST : mg "WIDEST" = some u_WIDEST
  r_WIDEST : RelV (.int 3) u_WIDEST
  a_count_of : Addr
  fd_count_of : FuncData
  F_count_of : Fun K "count_of" "count_of" s_count_of a_count_of fd_count_of
  m_count_of : mg "count_of" = some (.ref a_count_of)
  B_count_of : Binds K fd_count_of ["pieces", "tracks"] []
  a_chosen_order : Addr
  fd_chosen_order : FuncData
  F_chosen_order : Fun K "chosen_order" "chosen_order" s_chosen_order a_chosen_order fd_chosen_order
  m_chosen_order : mg "chosen_order" = some (.ref a_chosen_order)
  B_chosen_order : Binds K fd_chosen_order ["pieces", "levels", "level", "width"] []
  a_strips_of : Addr
  fd_strips_of : FuncData
  F_strips_of : Fun K "strips_of" "strips_of" s_strips_of a_strips_of fd_strips_of
  m_strips_of : mg "strips_of" = some (.ref a_strips_of)
  B_strips_of : Binds K fd_strips_of ["order"] []
  a_by_levels : Addr
  fd_by_levels : FuncData
  F_by_levels : Fun K "by_levels" "by_levels" s_by_levels a_by_levels fd_by_levels
  m_by_levels : mg "by_levels" = some (.ref a_by_levels)
  B_by_levels : Binds K fd_by_levels ["pieces", "levels"] []
  a_greatest_crowd : Addr
  fd_greatest_crowd : FuncData
  F_greatest_crowd : Fun K "greatest_crowd" "greatest_crowd" s_greatest_crowd a_greatest_crowd fd_greatest_crowd
  m_greatest_crowd : mg "greatest_crowd" = some (.ref a_greatest_crowd)
  B_greatest_crowd : Binds K fd_greatest_crowd ["order"] []
  a_bound_of : Addr
  fd_bound_of : FuncData
  F_bound_of : Fun K "bound_of" "bound_of" s_bound_of a_bound_of fd_bound_of
  m_bound_of : mg "bound_of" = some (.ref a_bound_of)
  B_bound_of : Binds K fd_bound_of ["pieces", "levels"] []
  a_law_box : Addr
  fd_law_box : FuncData
  F_law_box : Fun K "_law_box" "_law_box" s_law_box a_law_box fd_law_box
  m_law_box : mg "_law_box" = some (.ref a_law_box)
  B_law_box : Binds K fd_law_box ["script", "k"] []
  a_law_take : Addr
  fd_law_take : FuncData
  F_law_take : Fun K "_law_take" "_law_take" s_law_take a_law_take fd_law_take
  m_law_take : mg "_law_take" = some (.ref a_law_take)
  B_law_take : Binds K fd_law_take ["box", "size"] []
  a_law_folded : Addr
  fd_law_folded : FuncData
  F_law_folded : Fun K "_law_folded" "_law_folded" s_law_folded a_law_folded fd_law_folded
  m_law_folded : mg "_law_folded" = some (.ref a_law_folded)
  B_law_folded : Binds K fd_law_folded ["script", "size"] []
  a_law_word : Addr
  fd_law_word : FuncData
  F_law_word : Fun K "_law_word" "_law_word" s_law_word a_law_word fd_law_word
  m_law_word : mg "_law_word" = some (.ref a_law_word)
  B_law_word : Binds K fd_law_word ["box", "size"] []
  a_law_names : Addr
  fd_law_names : FuncData
  F_law_names : Fun K "_law_names" "_law_names" s_law_names a_law_names fd_law_names
  m_law_names : mg "_law_names" = some (.ref a_law_names)
  B_law_names : Binds K fd_law_names ["box", "many"] []
  a_law_pieces : Addr
  fd_law_pieces : FuncData
  F_law_pieces : Fun K "_law_pieces" "_law_pieces" s_law_pieces a_law_pieces fd_law_pieces
  m_law_pieces : mg "_law_pieces" = some (.ref a_law_pieces)
  B_law_pieces : Binds K fd_law_pieces ["box", "least", "most"] []
  a_law_levels_due : Addr
  fd_law_levels_due : FuncData
  F_law_levels_due : Fun K "_law_levels_due" "_law_levels_due" s_law_levels_due a_law_levels_due fd_law_levels_due
  m_law_levels_due : mg "_law_levels_due" = some (.ref a_law_levels_due)
  B_law_levels_due : Binds K fd_law_levels_due ["pieces", "levels"] []
  a_law_bound : Addr
  fd_law_bound : FuncData
  F_law_bound : Fun K "_law_bound" "_law_bound" s_law_bound a_law_bound fd_law_bound
  m_law_bound : mg "_law_bound" = some (.ref a_law_bound)
  B_law_bound : Binds K fd_law_bound ["pieces", "levels"] []
  a_law : Addr
  fd_law : FuncData
  F_law : Fun K "law" "law" s_law a_law fd_law
  m_law : mg "law" = some (.ref a_law)
  B_law : Binds K fd_law ["script"] []
abbrev N_count_of : List Str := ["pieces", "tracks", "piece", "track"]
theorem sc_count_of : FnScope N_count_of ["pieces", "tracks"] (defScope s_count_of) := ⟨rfl, rfl, rfl, by decide +kernel, rfl, by decide +kernel, by decide +kernel⟩
def phi_count_of : FT := fun ts k _ => ∃ (ps : List Pc) (tr : List Int), ts = [pcsT ps, .d (intsD tr)] ∧ tr.length = ps.length ∧ ps.length ≤ 100000 ∧ ∀ m, IsCount ps tr m → k (.int m) [pcsT ps, .d (intsD tr)]
def sem_count_of : SS :=
    (sRet (sCK fMaxDj (sCons (sLc [2, 3] (sIZ (sCons (sVar 0) (sCons (sVar 1) sNil))) (gT 2 (gCons (gN 2) (gCons (gN 3) gNil))) sYes (sBin fAdd (sVar 3) (sBin fIx (sVar 2) (sC (.int 3))))) sNil) (sCons (sC (.int 0)) sNil)))
abbrev B_count_of : Nat → Bool := (fun j => false)
theorem val_count_of (ts k e) (h : phi_count_of ts k e) : sem_count_of (endP B_count_of ts k fun _ _ => False) (ts ++ [.gone, .gone]) := by
  obtain ⟨ps, tr, rfl, htr, hl, hk⟩ := h
  walk_at "wp"
  have hz : (zipT ((ps.map pcD).map T.d) ((tr.map D.int).map T.d)).length = ps.length := by
    unfold zipT
    rw [List.length_map, List.length_zip, List.length_map, List.length_map, List.length_map, List.length_map, htr, Nat.min_self]
  refine ⟨by omega, ?_⟩
  refine lcL_of (fun i acc env => ∃ (x2 x3 : T) (es : List Int), acc = es.map T.int ∧ env = [pcsT ps, .d (intsD tr), x2, x3] ∧ es.length = i ∧ ∀ (m : Nat) (v : Int), es[m]? = some v → ∃ (a : Pc) (x : Int), ps[m]? = some a ∧ tr[m]? = some x ∧ v = x + a.w) ⟨_, _, [], rfl, rfl, rfl, fun m v h => by cases h⟩ ?_ ?_
  · rintro i t acc env N ht ⟨x2, x3, es, rfl, rfl, hes, hev⟩ hN
    unfold zipT at ht
    rw [List.getElem?_map] at ht
    obtain ⟨u, hu, rfl⟩ := Option.map_eq_some_iff.mp ht
    rw [List.getElem?_zip_eq_some] at hu
    obtain ⟨u1, u2⟩ := hu
    rw [List.getElem?_map, List.getElem?_map] at u1 u2
    obtain ⟨d1, hd1, e1⟩ := Option.map_eq_some_iff.mp u1
    obtain ⟨a, ha, rfl⟩ := Option.map_eq_some_iff.mp hd1
    obtain ⟨d2, hd2, e2⟩ := Option.map_eq_some_iff.mp u2
    obtain ⟨x, hx, rfl⟩ := Option.map_eq_some_iff.mp hd2
    rw [← e1, ← e2]
    walk_at "wp"
    refine hN _ _ ⟨_, _, es ++ [x + a.w], by rw [List.map_append]; rfl, rfl, by rw [List.length_append, hes]; rfl, fun m v hm => ?_⟩
    rw [List.getElem?_append] at hm
    split at hm
    · exact hev m v hm
    · have e : m = i := by
        have := (List.getElem?_eq_some_iff.mp hm).1
        simp at this
        omega
      subst e
      rw [hes, Nat.sub_self] at hm
      cases hm
      exact ⟨a, x, ha, hx, rfl⟩
  rintro acc env ⟨x2, x3, es, rfl, rfl, hes, hev⟩
  rw [hz] at hes
  walk_at "wp"
  refine ⟨es, rfl, ?_⟩
  walk_at "wp"
  intro m hm1 hm2
  walk_at "wp"
  refine hk m ?_
  by_cases h0 : es = []
  · subst h0
    exact .inl ⟨List.eq_nil_of_length_eq_zero hes.symm, hm1 rfl⟩
  · obtain ⟨hm3, hm4⟩ := hm2 h0
    refine .inr ⟨?_, fun j a x h1 h2 => ?_⟩
    · obtain ⟨j, hj⟩ := List.mem_iff_getElem?.mp hm3
      obtain ⟨a, x, h1, h2, h3⟩ := hev j m hj
      exact ⟨j, a, x, h1, h2, h3⟩
    · obtain ⟨v, hv⟩ : ∃ v, es[j]? = some v := ⟨_, List.getElem?_eq_getElem (by rw [hes]; exact (List.getElem?_eq_some_iff.mp h1).1)⟩
      obtain ⟨a', x', g1, g2, rfl⟩ := hev j v hv
      rw [h1] at g1
      rw [h2] at g2
      cases g1; cases g2
      exact hm4 _ (List.mem_of_getElem? hv)
theorem ok_count_of {P : Program} {w : World} {K : PySem.W.Frag} {mg : Str → Option Value} {base : Heap} (T : Tx K mg) : FnG P w K mg base CX0 1 T.a_count_of T.fd_count_of ["pieces", "tracks"] (spT K 2 phi_count_of) :=
  def_okG B_count_of T.F_count_of sc_count_of sem_count_of (fun cdv A outer s H E hG hr =>
      (d_last (d_ret (d_callBK (cr_maxDf rfl hr.units) rc_maxDj (by rfl) T.b_max (by decide +kernel) (d_cons (d_lc (own := [("piece", 2), ("track", 3)]) (fun j => j == 2 || j == 3) (own_2) rfl sc_count_of.nd (d_iZ (by rfl) T.b_zip (d_cons (d_var (i := 0) (pv 0)) (d_cons (d_var (i := 1) (pv 1)) d_nil))) (blkOk_by (own := [("piece", 2), ("track", 3)]) (N := N_count_of) (sc := defScope s_count_of) (by decide +kernel)) (fun _ _ _ _ _ => (d_gT rfl (d_gcons (d_gN (i := 2) (by rfl) (pg_name (i := 2) sc_count_of.nd rfl (by first | exact Or.inl rfl | exact Or.inr rfl))) (d_gcons (d_gN (i := 3) (by rfl) (pg_name (i := 3) sc_count_of.nd rfl (by first | exact Or.inl rfl | exact Or.inr rfl))) d_gnil)))) (fun _ _ _ _ _ => d_tnil) (fun _ _ _ _ _ => (d_bin op_addA rb_add (d_var (i := 3) (pv 3)) (d_ix ix_seq rb_ix (d_var (i := 2) (pv 2)) d_int)))) d_nil) (d_kcons d_int d_knil))))) (fun ts k e hl h => val_count_of ts k e h)
abbrev N_chosen_order : List Str := ["pieces", "levels", "level", "width", "found", "number", "piece"]
theorem sc_chosen_order : FnScope N_chosen_order ["pieces", "levels", "level", "width"] (defScope s_chosen_order) := ⟨rfl, rfl, rfl, by decide +kernel, rfl, by decide +kernel, by decide +kernel⟩
def phi_chosen_order : FT := fun ts k _ => ∃ (ps : List Pc) (lv : List Int) (L w : Int), ts = [pcsT ps, .d (intsD lv), .int L, .int w] ∧ lv.length = ps.length ∧ ps.length ≤ 100000 ∧ k (.lst ((ordF ps lv L w).map fun x => .d (triD x))) [pcsT ps, .d (intsD lv), .int L, .int w]
def sem_chosen_order : SS :=
    (sSeq (sAsg (sLst sNil) (gN 4))
    (sSeq (sFor (sIE (sCons (sVar 0) sNil)) (gT 2 (gCons (gN 5) (gCons (gN 6) gNil))) (sIfS (sAnd (sTest (sBin fEqX (sBin fIx (sVar 1) (sVar 5)) (sVar 2))) (sTest (sBin fEqX (sBin fIx (sVar 6) (sC (.int 3))) (sVar 3)))) (sDrop (sMeth 4 fmAppend (sCons (sTup (sCons (sBin fIx (sVar 6) (sC (.int 1))) (sCons (sBin fIx (sVar 6) (sC (.int 2))) (sCons (sVar 5) sNil)))) sNil))) sSkip))
    (sRet (sRd (sCB (fc1 fSorted) (sCons (sVar 4) sNil))))))
abbrev B_chosen_order : Nat → Bool := (fun j => j == 4 || j == 5 || j == 6)
theorem val_chosen_order (ts k e) (h : phi_chosen_order ts k e) : sem_chosen_order (endP B_chosen_order ts k fun _ _ => False) (ts ++ [.gone, .gone, .gone]) := by
  obtain ⟨ps, lv, L, w, rfl, hlv, hl, hk⟩ := h
  walk_at "wp"
  refine forL_of (fun i env => ∃ (x5 x6 : T), env = [pcsT ps, .d (intsD lv), .int L, .int w, .lst ((selF (ps.take i) (lv.take i) L w).map fun x => .d (triD x)), x5, x6]) ⟨_, _, rfl⟩ ?_ ?_
  · rintro i t env N ht ⟨x5, x6, rfl⟩ hN
    obtain ⟨u, hu, rfl⟩ := enumT_get ht
    rw [List.getElem?_map, List.getElem?_map] at hu
    obtain ⟨u', hu', rfl⟩ := Option.map_eq_some_iff.mp hu
    obtain ⟨a, ha, rfl⟩ := Option.map_eq_some_iff.mp hu'
    have hi : i < ps.length := (List.getElem?_eq_some_iff.mp ha).1
    obtain ⟨x, hx⟩ : ∃ x, lv[i]? = some x := ⟨_, List.getElem?_eq_getElem (by omega)⟩
    have est := sel_take_succ (L := L) (w := w) ha hx
    walk_at "wp"
    refine asO_at (n := i) rfl (get_map hx) ?_
    walk_at "wp"
    have hno : ¬ (x = L ∧ a.w = w) → ∀ x5 x6, N [pcsT ps, .d (intsD lv), .int L, .int w, .lst ((selF (ps.take i) (lv.take i) L w).map fun x => .d (triD x)), x5, x6] := fun c x5 x6 => by
      rw [if_neg c, List.append_nil] at est
      exact hN _ ⟨x5, x6, by rw [est]⟩
    refine wh_Ei (fun h1 => ?_) (fun h1 => ?_)
    · walk_at "wp"
      refine wh_Ei (fun h2 => ?_) (fun h2 => ?_)
      · walk_at "wp"
        rw [if_pos ⟨h1, h2⟩] at est
        refine ⟨?_, ?_⟩
        · rw [List.length_map]
          have h3 : (selF (ps.take i) (lv.take i) L w).length ≤ ((ps.take i).zip (lv.take i)).zipIdx.length := by
            unfold selF
            rw [List.length_map]
            exact List.length_filter_le ..
          rw [List.length_zipIdx, List.length_zip, List.length_take, List.length_take] at h3
          omega
        walk_at "wp"
        refine hN _ ⟨.int i, .d (pcD a), ?_⟩
        rw [est, List.map_append]
        rfl
      · walk_at "wp"
        exact hno (fun z => h2 z.2) _ _
    · walk_at "wp"
      exact hno (fun z => h1 z.1) _ _
  · rintro env ⟨x5, x6, rfl⟩
    have e1 : (enumT ((ps.map pcD).map T.d)).length = ps.length := by rw [enumT_len, List.length_map, List.length_map]
    rw [e1, List.take_length, ← hlv, List.take_length]
    have e2 : (selF ps lv L w).map (fun x => T.d (triD x)) = ((selF ps lv L w).map triI).map fun xs => T.d (itD xs) := by rw [List.map_map]; rfl
    have e3 : frzL ((selF ps lv L w).map fun x => T.d (triD x)) = ((selF ps lv L w).map triI).map itD := by rw [e2, frzL_its]
    have hsl : (selF ps lv L w).length ≤ 100000 := by
      have h3 : (selF ps lv L w).length ≤ (ps.zip lv).zipIdx.length := by
        unfold selF
        rw [List.length_map]
        exact List.length_filter_le ..
      rw [List.length_zipIdx, List.length_zip] at h3
      omega
    walk_at "wp"
    rw [e3]
    have e4 : ((selF ps lv L w).map triI).map (fun xs => T.d (itD xs)) = (((selF ps lv L w).map triI).map itD).map T.d := by simp only [List.map_map]; rfl
    rw [← e4]
    have eS : sortT (((selF ps lv L w).map triI).map fun xs => T.d (itD xs)) = (ordF ps lv L w).map fun x => T.d (triD x) := by
      rw [sortT_I, sortI_tri, List.map_map]
      rfl
    rw [eS]
    refine ⟨?_, ?_⟩
    · rw [frzL_its]
      exact Srt_I (fun xs hx => by obtain ⟨y, _, rfl⟩ := List.mem_map.mp hx; intro z; cases z) (by rw [List.length_map]; omega)
    walk_at "wp"
    refine ifT_of ?_ ?_
    · have e5 : (ordF ps lv L w).map (fun x => T.d (triD x)) = ((ordF ps lv L w).map triI).map fun xs => T.d (itD xs) := by rw [List.map_map]; rfl
      rw [e5]
      exact own_its _
    walk_at "wp"
    exact hk
theorem ok_chosen_order {P : Program} {w : World} {K : PySem.W.Frag} {mg : Str → Option Value} {base : Heap} (T : Tx K mg) : FnG P w K mg base CX0 1 T.a_chosen_order T.fd_chosen_order ["pieces", "levels", "level", "width"] (spT K 4 phi_chosen_order) :=
  def_okG B_chosen_order T.F_chosen_order sc_chosen_order sem_chosen_order (fun cdv A outer s H E hG hr =>
      (d_seq (d_set (i := 4) (by rfl) sc_chosen_order.nd rfl (by first | exact Or.inl rfl | exact Or.inr rfl) (d_lst d_nil))
      (d_seq (d_for PassesOwn.never rfl (d_iE (by rfl) T.b_enumerate (d_cons (d_var (i := 0) (pv 0)) d_nil)) (d_gT rfl (d_gcons (d_gN (i := 5) (by rfl) (pg_name (i := 5) sc_chosen_order.nd rfl (by first | exact Or.inl rfl | exact Or.inr rfl))) (d_gcons (d_gN (i := 6) (by rfl) (pg_name (i := 6) sc_chosen_order.nd rfl (by first | exact Or.inl rfl | exact Or.inr rfl))) d_gnil))) (d_last (d_ifS (d_w (d_and (d_tcmp (op_eqX hr.units) rb_eqX (d_ix ix_seq rb_ix (d_var (i := 1) (pv 1)) (d_var (i := 5) (pv 5))) (d_var (i := 2) (pv 2)) (nomark _)) (d_and1 (d_tcmp (op_eqX hr.units) rb_eqX (d_ix ix_seq rb_ix (d_var (i := 6) (pv 6)) d_int) (d_var (i := 3) (pv 3)) (nomark _))))) (d_last (d_drop (d_meth (i := 4) rm_append PySem.F.plainAttrs_list PySem.F.slot_list_append PySem.F.type_list_append mt_append (pv 4) (d_cons (d_tup (d_cons (d_ix ix_seq rb_ix (d_var (i := 6) (pv 6)) d_int) (d_cons (d_ix ix_seq rb_ix (d_var (i := 6) (pv 6)) d_int) (d_cons (d_var (i := 5) (pv 5)) d_nil)))) d_nil)))) d_skip)))
      (d_last (d_ret (d_rd (d_callB (cr_sortD hr.units) rc_sortD (by rfl) T.b_sorted (by decide +kernel) (d_cons (d_var (i := 4) (pv 4)) d_nil)))))))) (fun ts k e hl h => val_chosen_order ts k e h)
abbrev N_strips_of : List Str := ["order", "strips", "ends", "first", "last", "number", "at"]
theorem sc_strips_of : FnScope N_strips_of ["order"] (defScope s_strips_of) := ⟨rfl, rfl, rfl, by decide +kernel, rfl, by decide +kernel, by decide +kernel⟩
def phi_strips_of : FT := fun ts k _ => ∃ (o : List Tri), ts = [.d (.lst (o.map triD))] ∧ o.length ≤ 100000 ∧ (∀ x ∈ o, x.1 ≤ x.2.1) ∧ (o.Pairwise fun a b => a.1 ≤ b.1) ∧
  k (.lst ((stripsF (layF o)).map fun l => .lst (l.map natT))) [.d (.lst (o.map triD))]
def sem_strips_of : SS :=
    (sSeq (sAsg (sLst sNil) (gN 1))
    (sSeq (sAsg (sLst sNil) (gN 2))
    (sSeq (sFor (sIL (sVar 0)) (gT 3 (gCons (gN 3) (gCons (gN 4) (gCons (gN 5) gNil)))) (sSeq (sAsg (sC (.int 0)) (gN 6))
    (sSeq (sWhile (sAnd (sRdB (sTest (sBin fLt (sVar 6) (sCB (fc1 fLen) (sCons (sVar 1) sNil))))) (sRdB (sTest (sBin fGe (sBin fIx (sVar 2) (sVar 6)) (sVar 3))))) (sAug (fI0 fun i j => .int (i + j)) 6 (sC (.int 1))))
    (sSeq (sIfS (sRdB (sTest (sBin fEqX (sVar 6) (sCB (fc1 fLen) (sCons (sVar 1) sNil))))) (sSeq (sDrop (sMeth 1 fmAppend (sCons (sLst sNil) sNil)))
    (sDrop (sMeth 2 fmAppend (sCons (sVar 4) sNil)))) sSkip)
    (sSeq (sDrop (sMethP 1 (sVar 6) fmAppend (sCons (sVar 5) sNil)))
    (sAsg (sVar 4) (gSetL 2 (sVar 6))))))))
    (sRet (sMv 1)))))
abbrev B_strips_of : Nat → Bool := (fun j => j == 1 || j == 2 || j == 3 || j == 4 || j == 5 || j == 6)
theorem val_strips_of (ts k e) (h : phi_strips_of ts k e) : sem_strips_of (endP B_strips_of ts k fun _ _ => False) (ts ++ [.gone, .gone, .gone, .gone, .gone, .gone]) := by
  obtain ⟨o, rfl, hl, hx, hp, hk⟩ := h
  walk_at "wp"
  refine forL_of (fun i env => ∃ (x3 x4 x5 x6 : T), env = [.d (.lst (o.map triD)), .lst ((stripsF (layF (o.take i))).map fun l => .lst (l.map natT)), .lst ((layF (o.take i)).1.map T.int), x3, x4, x5, x6]) ⟨_, _, _, _, rfl⟩ ?_ ?_
  · rintro i t env N ht ⟨x3, x4, x5, x6, rfl⟩ hN
    rw [List.getElem?_map, List.getElem?_map] at ht
    obtain ⟨u', hu', rfl⟩ := Option.map_eq_some_iff.mp ht
    obtain ⟨x, hxi, rfl⟩ := Option.map_eq_some_iff.mp hu'
    have hi : i < o.length := (List.getElem?_eq_some_iff.mp hxi).1
    have I := layF_inv hp hx i (by omega)
    have hst : layF (o.take (i + 1)) = layS (layF (o.take i)) x := by
      rw [List.take_add_one, hxi]
      exact layF_snoc _ _
    have hle := lay_le I
    rw [List.length_take] at hle
    rw [hst] at hN
    generalize hZ : layF (o.take i) = Z at *
    have hsl := stripsF_len Z
    have hse := slotE_le (ends := Z.1) (l := x.1)
    have efE : frzL (Z.1.map T.int) = Z.1.map D.int := frzL_of (fun _ => rfl) _
    have efS : (frzL ((stripsF Z).map fun l => T.lst (l.map natT))).length = Z.1.length := by rw [frzL_map, List.length_map, List.length_map, hsl]
    walk_at "wp"
    refine sWhile_of (fun m env => ∃ j : Nat, j ≤ slotE Z.1 x.1 ∧ m = Z.1.length - j ∧ env = [.d (.lst (o.map triD)), .lst ((stripsF Z).map fun l => .lst (l.map natT)), .lst (Z.1.map T.int), .int x.1, .int x.2.1, .int x.2.2, .int j])
      (fun env => env = [.d (.lst (o.map triD)), .lst ((stripsF Z).map fun l => .lst (l.map natT)), .lst (Z.1.map T.int), .int x.1, .int x.2.1, .int x.2.2, .int (slotE Z.1 x.1)]) Z.1.length ⟨0, Nat.zero_le _, rfl, rfl⟩ ?_ ?_
    · rintro m env N' Nx ⟨j, hj, rfl, rfl⟩ hN' hNx
      walk_at "wp"
      refine wh_d (fun h1 => ?_) (fun h1 => ?_)
      · rw [efS] at h1
        walk_at "wp"
        obtain ⟨e, he⟩ : ∃ e, Z.1[j]? = some e := ⟨_, List.getElem?_eq_getElem (by omega)⟩
        rw [efE]
        refine asO_at (n := j) rfl (get_map he) ?_
        walk_at "wp"
        refine wh_d (fun h2 => ?_) (fun h2 => ?_)
        · walk_at "wp"
          refine hN' _ _ ?_ ⟨j + 1, ?_, rfl, rfl⟩
          · omega
          · rcases Nat.lt_or_ge j (slotE Z.1 x.1) with z | z
            · exact z
            · have : j = slotE Z.1 x.1 := by omega
              subst this
              have := slotE_at he
              omega
        · walk_at "wp"
          refine hNx _ ?_
          have : slotE Z.1 x.1 = j := by
            rcases Nat.lt_or_ge j (slotE Z.1 x.1) with z | z
            · obtain ⟨e2, h3, h4⟩ := slotE_lt z
              rw [he] at h3
              cases h3
              omega
            · omega
          rw [this]
      · rw [efS] at h1
        walk_at "wp"
        refine hNx _ ?_
        have : slotE Z.1 x.1 = j := by omega
        rw [this]
    rintro env rfl
    walk_at "wp"
    refine wh_joinS (fun env => env = [.d (.lst (o.map triD)), .lst ((if slotE Z.1 x.1 < Z.1.length then stripsF Z else stripsF Z ++ [[]]).map fun l => .lst (l.map natT)), .lst ((if slotE Z.1 x.1 < Z.1.length then Z.1 else Z.1 ++ [x.2.1]).map T.int), .int x.1, .int x.2.1, .int x.2.2, .int (slotE Z.1 x.1)]) ?_ ?_ ?_
    · intro hb N' hN'
      have hb := eqBi.mp hb
      rw [efS] at hb
      have hb : slotE Z.1 x.1 = Z.1.length := by omega
      walk_at "wp"
      refine ⟨by rw [List.length_map, hsl]; omega, ?_⟩
      walk_at "wp"
      refine ⟨by rw [List.length_map]; omega, ?_⟩
      walk_at "wp"
      refine hN' _ ?_
      rw [if_neg (by omega), if_neg (by omega), List.map_append, List.map_append]
      rfl
    · intro hb N' hN'
      have hb := eqBi'.mp hb
      rw [efS] at hb
      walk_at "wp"
      refine hN' _ ?_
      rw [if_pos (by omega), if_pos (by omega)]
    · rintro env rfl
      walk_at "wp"
      by_cases c : slotE Z.1 x.1 < Z.1.length
      · rw [if_pos c, if_pos c]
        refine asN_of (i := slotE Z.1 x.1) (ixN_at (by rw [List.length_map, hsl]; exact c) rfl) ?_
        walk_at "wp"
        obtain ⟨l, hl0⟩ : ∃ l, (stripsF Z)[slotE Z.1 x.1]? = some l := ⟨_, List.getElem?_eq_getElem (by omega)⟩
        refine asO_of (x := .lst (l.map natT)) (by rw [List.getElem?_map, hl0]; rfl) ?_
        walk_at "wp"
        refine ⟨?_, ?_⟩
        · rw [List.length_map]
          have h1 : l.length ≤ Z.2.length := by
            unfold stripsF at hl0
            rw [List.getElem?_map, List.getElem?_range c] at hl0
            cases hl0
            rw [List.length_map]
            exact List.length_filter_le ..
          have h2 : Z.2.length = (o.take i).length := by rw [← I.items, List.length_map]
          rw [List.length_take] at h2
          omega
        walk_at "wp"
        refine asN_of (i := slotE Z.1 x.1) (ixN_at (by rw [List.length_map]; exact c) rfl) ?_
        walk_at "wp"
        refine hN _ ⟨.int x.1, .int x.2.1, .int x.2.2, .int (slotE Z.1 x.1), ?_⟩
        rw [stripsF_step I.lt c, List.getD_eq_getElem?_getD, hl0, List.map_set, List.map_append]
        have e1 : (layS Z x).1 = Z.1.set (slotE Z.1 x.1) x.2.1 := by
          show putE _ _ _ = _
          unfold putE
          rw [if_pos c]
        rw [e1, List.map_set]
        rfl
      · rw [if_neg c, if_neg c]
        have ce : slotE Z.1 x.1 = Z.1.length := by omega
        refine asN_of (i := slotE Z.1 x.1) (ixN_at (by rw [List.length_map, List.length_append, hsl]; show _ < _ + 1; omega) rfl) ?_
        walk_at "wp"
        refine asO_of (x := .lst []) (by rw [List.getElem?_map, ce, ← hsl, List.getElem?_append_right (Nat.le_refl _), Nat.sub_self]; rfl) ?_
        walk_at "wp"
        refine ⟨by decide, ?_⟩
        walk_at "wp"
        refine asN_of (i := slotE Z.1 x.1) (ixN_at (by rw [List.length_map, List.length_append]; show _ < _ + 1; omega) rfl) ?_
        walk_at "wp"
        refine hN _ ⟨.int x.1, .int x.2.1, .int x.2.2, .int (slotE Z.1 x.1), ?_⟩
        rw [stripsF_new I.lt ce, List.map_append, List.map_append]
        have e1 : (layS Z x).1 = Z.1 ++ [x.2.1] := by
          show putE _ _ _ = _
          unfold putE
          rw [if_neg c]
        rw [e1, List.map_append, ce]
        have e2 : ((stripsF Z).map (fun l => T.lst (l.map natT)) ++ [T.lst []]).set Z.1.length (.lst [natT x.2.2]) = (stripsF Z).map (fun l => T.lst (l.map natT)) ++ [T.lst [natT x.2.2]] := by
          rw [← hsl, ← List.length_map (f := fun l => T.lst (List.map natT l)), List.set_append_right _ _ (Nat.le_refl _), Nat.sub_self]
          rfl
        have e3 : (Z.1.map T.int ++ [T.int x.2.1]).set Z.1.length (.int x.2.1) = Z.1.map T.int ++ [T.int x.2.1] := by
          rw [← List.length_map (f := T.int), List.set_append_right _ _ (Nat.le_refl _), Nat.sub_self]
          rfl
        show [_, T.lst (((stripsF Z).map (fun l => T.lst (l.map natT)) ++ [T.lst []]).set Z.1.length (.lst [natT x.2.2])), T.lst ((Z.1.map T.int ++ [T.int x.2.1]).set Z.1.length (.int x.2.1)), _, _, _, _] = _
        rw [e2, e3]
        simp only [List.map_append]
        rfl
  · rintro env ⟨x3, x4, x5, x6, rfl⟩
    rw [List.length_map, List.length_map, List.take_length]
    walk_at "wp"
    exact hk
theorem ok_strips_of {P : Program} {w : World} {K : PySem.W.Frag} {mg : Str → Option Value} {base : Heap} (T : Tx K mg) : FnG P w K mg base CX0 1 T.a_strips_of T.fd_strips_of ["order"] (spT K 1 phi_strips_of) :=
  def_okG B_strips_of T.F_strips_of sc_strips_of sem_strips_of (fun cdv A outer s H E hG hr =>
      (d_seq (d_set (i := 1) (by rfl) sc_strips_of.nd rfl (by first | exact Or.inl rfl | exact Or.inr rfl) (d_lst d_nil))
      (d_seq (d_set (i := 2) (by rfl) sc_strips_of.nd rfl (by first | exact Or.inl rfl | exact Or.inr rfl) (d_lst d_nil))
      (d_seq (d_for PassesOwn.never rfl (d_iL (d_var (i := 0) (pv 0))) (d_gT rfl (d_gcons (d_gN (i := 3) (by rfl) (pg_name (i := 3) sc_strips_of.nd rfl (by first | exact Or.inl rfl | exact Or.inr rfl))) (d_gcons (d_gN (i := 4) (by rfl) (pg_name (i := 4) sc_strips_of.nd rfl (by first | exact Or.inl rfl | exact Or.inr rfl))) (d_gcons (d_gN (i := 5) (by rfl) (pg_name (i := 5) sc_strips_of.nd rfl (by first | exact Or.inl rfl | exact Or.inr rfl))) d_gnil)))) (d_seq (d_set (i := 6) (by rfl) sc_strips_of.nd rfl (by first | exact Or.inl rfl | exact Or.inr rfl) d_int)
      (d_seq (d_while PassesOwn.never (d_w (d_and (d_rdB (d_tcmp op_ltA rb_cmp (d_var (i := 6) (pv 6)) (d_callB cr_len rc_len (by rfl) T.b_len (by decide +kernel) (d_cons (d_var (i := 1) (pv 1)) d_nil)) (nomark _))) (d_and1 (d_rdB (d_tcmp op_geA rb_cmp (d_ix ix_seq rb_ix (d_var (i := 2) (pv 2)) (d_var (i := 6) (pv 6))) (d_var (i := 3) (pv 3)) (nomark _)))))) (d_last (d_aug (i := 6) (by rfl) (rb_I0 (g := fun i j => .int (i + j))) sc_strips_of.nd rfl (by first | exact Or.inl rfl | exact Or.inr rfl) d_int ip_add)))
      (d_seq (d_ifS (d_rdB (d_tcmp (op_eqX hr.units) rb_eqX (d_var (i := 6) (pv 6)) (d_callB cr_len rc_len (by rfl) T.b_len (by decide +kernel) (d_cons (d_var (i := 1) (pv 1)) d_nil)) (nomark _))) (d_seq (d_drop (d_meth (i := 1) rm_append PySem.F.plainAttrs_list PySem.F.slot_list_append PySem.F.type_list_append mt_append (pv 1) (d_cons (d_lst d_nil) d_nil)))
      (d_last (d_drop (d_meth (i := 2) rm_append PySem.F.plainAttrs_list PySem.F.slot_list_append PySem.F.type_list_append mt_append (pv 2) (d_cons (d_var (i := 4) (pv 4)) d_nil))))) d_skip)
      (d_seq (d_drop (d_methP (i := 1) rm_append PySem.F.plainAttrs_list PySem.F.slot_list_append PySem.F.type_list_append mt_append (pv 1) (d_var (i := 6) (pv 6)) (d_cons (d_var (i := 5) (pv 5)) d_nil)))
      (d_last (d_asg (d_var (i := 4) (pv 4)) (d_gSetL (i := 2) (pg_sub (pv 2) (d_var (i := 6) (pv 6)) set_list)))))))))
      (d_last (d_ret (d_mv (i := 1) (pv 1)))))))) (fun ts k e hl h => val_strips_of ts k e h)
abbrev N_by_levels : List Str := ["pieces", "levels", "tracks", "track", "level", "width", "strip", "number", "piece"]
theorem sc_by_levels : FnScope N_by_levels ["pieces", "levels"] (defScope s_by_levels) := ⟨rfl, rfl, rfl, by decide +kernel, rfl, by decide +kernel, by decide +kernel⟩
def phi_by_levels : FT := fun ts k _ => ∃ (ps : List Pc) (lv : List Int), ts = [pcsT ps, .d (intsD lv)] ∧ (∀ a ∈ ps, a.l ≤ a.r) ∧ (∀ a ∈ ps, 1 ≤ a.w ∧ a.w ≤ 3) ∧ lv.length = ps.length ∧ ps.length ≤ 100000 ∧ (∀ x ∈ lv, 0 ≤ x ∧ x ≤ 10000) ∧ k (.lst ((byLv ps lv).map T.int)) [pcsT ps, .d (intsD lv)]
def sem_by_levels : SS :=
    (sSeq (sAsg (sLc [8] (sIL (sVar 0)) (gN 8) sYes (sC (.int 0))) (gN 2))
    (sSeq (sAsg (sC (.int 0)) (gN 3))
    (sSeq (sFor (sIR1 (sCons (sBin fAdd (sCK fMaxDj (sCons (sVar 1) sNil) (sCons (sNeg (sC (.int 1))) sNil)) (sC (.int 1))) sNil)) (gN 4) (sFor (sIR3 (sCons (sC (.int 3)) (sCons (sC (.int 0)) (sCons (sNeg (sC (.int 1))) sNil)))) (gN 5) (sFor (sIL (sFrz (sCall0 1 phi_strips_of [] (sCons (sFrz (sCall0 4 phi_chosen_order [] (sCons (sVar 0) (sCons (sVar 1) (sCons (sVar 4) (sCons (sVar 5) sNil)))))) sNil)))) (gN 6) (sSeq (sFor (sIL (sVar 6)) (gN 7) (sAsg (sVar 3) (gSetL 2 (sVar 7))))
    (sAug (fI0 fun i j => .int (i + j)) 3 (sVar 5))))))
    (sRet (sMv 2)))))
abbrev B_by_levels : Nat → Bool := (fun j => j == 2 || j == 3 || j == 4 || j == 5 || j == 6 || j == 7)
theorem val_by_levels (ts k e) (h : phi_by_levels ts k e) : sem_by_levels (endP B_by_levels ts k fun _ _ => False) (ts ++ [.gone, .gone, .gone, .gone, .gone, .gone, .gone]) := by
  obtain ⟨ps, lv, rfl, hlr, hw, hlv, hl, h0, hk⟩ := h
  have hml := maxL_bd (n := 10000) (by decide) fun x hx => (h0 x hx).2
  walk_at "wp"
  refine ⟨by rw [List.length_map, List.length_map]; omega, ?_⟩
  refine lcL_of (fun i acc env => ∃ (x8 : T), acc = (List.replicate i (0 : Int)).map T.int ∧ env = [pcsT ps, .d (intsD lv), .gone, .gone, .gone, .gone, .gone, .gone, x8]) ⟨_, rfl, rfl⟩ ?_ ?_
  · rintro i t acc env N ht ⟨x8, rfl, rfl⟩ hN
    rw [List.getElem?_map, List.getElem?_map] at ht
    obtain ⟨u', hu', rfl⟩ := Option.map_eq_some_iff.mp ht
    obtain ⟨a, ha, rfl⟩ := Option.map_eq_some_iff.mp hu'
    walk_at "wp"
    exact hN _ _ ⟨_, by rw [List.replicate_succ', List.map_append]; rfl, rfl⟩
  rintro acc env ⟨x8, rfl, rfl⟩
  rw [List.length_map, List.length_map]
  walk_at "wp"
  refine ⟨lv, by rw [List.map_map]; rfl, ?_⟩
  walk_at "wp"
  intro m hm1 hm2
  obtain rfl := maxL_of hm1 hm2 fun x hx => (h0 x hx).1
  walk_at "wp"
  refine ⟨⟨by omega, by omega⟩, ?_⟩
  refine forL_of (fun i env => ∃ (x4 x5 x6 x7 x8 : T), env = [pcsT ps, .d (intsD lv), .lst ((levF ps lv ((rngI (maxL lv + 1).toNat).take i)).2.map T.int), .int (levF ps lv ((rngI (maxL lv + 1).toNat).take i)).1, x4, x5, x6, x7, x8]) ⟨_, _, _, _, _, rfl⟩ ?_ ?_
  · rintro i t env N ht ⟨x4, x5, x6, x7, x8, rfl⟩ hN
    obtain ⟨hi, rfl⟩ := rngT_get ht
    have hst := levF_take (ps := ps) (lv := lv) (rngI_get hi)
    have hl0 : (levF ps lv ((rngI (maxL lv + 1).toNat).take i)).2.length = ps.length := levF_len _ _ (List.length_replicate ..)
    rw [hst] at hN
    generalize hB : levF ps lv ((rngI (maxL lv + 1).toNat).take i) = st0 at *
    rw [Int.zero_add]
    walk_at "wp"
    refine ⟨3, RgC.neg (by decide) (by decide) (by decide) (by decide), ?_⟩
    refine forL_of (fun j env => ∃ (x5 x6 x7 x8 : T), env = [pcsT ps, .d (intsD lv), .lst ((stW ps lv i st0 j).2.map T.int), .int (stW ps lv i st0 j).1, .int i, x5, x6, x7, x8]) ⟨_, _, _, _, rfl⟩ ?_ ?_
    · rintro j t env N' ht' ⟨x5, x6, x7, x8, rfl⟩ hN'
      obtain ⟨hj, rfl⟩ := rngC_get ht'
      have I := ord_ok hlr lv i (3 + (j : Int) * -1)
      have hlt := lay_items_lt I
      have hnd := lay_nd I
      have hl1 := stW_len (lv := lv) (L := i) hl0 (j := j) (by omega)
      rw [stW_step hj] at hN'
      have hS : stepW ps lv i (stW ps lv i st0 j) (3 + (j : Int) * -1) = ((stW ps lv i st0 j).1 + (layF (ordF ps lv i (3 + (j : Int) * -1))).1.length * (3 + (j : Int) * -1), setsF (stW ps lv i st0 j).1 (3 + (j : Int) * -1) (layF (ordF ps lv i (3 + (j : Int) * -1))).2 (stW ps lv i st0 j).2) := rfl
      rw [hS] at hN'
      walk_at "wp"
      refine ⟨ps, lv, (i : Int), 3 + (j : Int) * -1, rfl, hlv, hl, ?_⟩
      walk_at "wp"
      refine ⟨ordF ps lv i (3 + (j : Int) * -1), ?_, ?_, ?_, sortTri_pair _, ?_⟩
      · show [T.d (.lst (frzL ((ordF ps lv i (3 + (j : Int) * -1)).map fun x => .d (triD x))))] = _
        rw [frzL_of (g := triD) fun _ => rfl]
      · have := ord_len (L := i) (w := 3 + (j : Int) * -1) hlv
        omega
      · intro x hx
        obtain ⟨a, h1, _, _, h4, h5⟩ := mem_sel.mp (mem_ord.mp hx)
        rw [h4, h5]
        exact hlr a (List.mem_of_getElem? h1)
      generalize hZ : layF (ordF ps lv i (3 + (j : Int) * -1)) = Z at *
      generalize hw0 : 3 + (j : Int) * -1 = w at *
      generalize hs1 : stW ps lv i st0 j = s1 at *
      have efs : frzL ((stripsF Z).map fun l => T.lst (l.map natT)) = (stripsF Z).map fun l => D.lst (l.map fun n => D.int ((n : Nat) : Int)) := frzL_of (fun l => by
        show D.lst (frzL (l.map natT)) = _
        rw [frzL_of (g := fun n : Nat => D.int n) fun _ => rfl]) _
      walk_at "wp"
      rw [efs]
      refine forL_of (fun m env => ∃ (x6 x7 x8 : T), env = [pcsT ps, .d (intsD lv), .lst ((upF s1.1 w Z.2 s1.2 m).map T.int), .int (s1.1 + m * w), .int i, .int w, x6, x7, x8]) ⟨x6, x7, x8, ?_⟩ ?_ ?_
      · show _ = [_, _, T.lst (s1.2.map T.int), T.int (s1.1 + ((0 : Nat) : Int) * w), _, _, _, _, _]
        rw [show ((0 : Nat) : Int) * w = 0 from Int.zero_mul w, Int.add_zero]
      · rintro m t env N2 ht2 ⟨x6, x7, x8, rfl⟩ hN2
        rw [List.getElem?_map, List.getElem?_map] at ht2
        obtain ⟨u', hu', rfl⟩ := Option.map_eq_some_iff.mp ht2
        obtain ⟨l, hl', rfl⟩ := Option.map_eq_some_iff.mp hu'
        have hm : m < Z.1.length := by
          have := (List.getElem?_eq_some_iff.mp hl').1
          rwa [stripsF_len] at this
        have hll : l = (Z.2.filter fun y => y.2 == m).map (·.1.2.2) := by
          unfold stripsF at hl'
          rw [List.getElem?_map, List.getElem?_range hm] at hl'
          exact (Option.some.inj hl').symm
        subst hll
        walk_at "wp"
        refine forL_of (fun q env => ∃ (x7 x8 : T), env = [pcsT ps, .d (intsD lv), .lst ((setsF s1.1 w ((Z.2.filter fun y => y.2 == m).take q) (upF s1.1 w Z.2 s1.2 m)).map T.int), .int (s1.1 + m * w), .int i, .int w, .d (.lst (((Z.2.filter fun y => y.2 == m).map (·.1.2.2)).map fun n => D.int ((n : Nat) : Int))), x7, x8]) ⟨x7, x8, rfl⟩ ?_ ?_
        · rintro q t env N3 ht3 ⟨x7, x8, rfl⟩ hN3
          rw [List.getElem?_map, List.getElem?_map, List.getElem?_map] at ht3
          obtain ⟨u', hu', rfl⟩ := Option.map_eq_some_iff.mp ht3
          obtain ⟨n, hn', rfl⟩ := Option.map_eq_some_iff.mp hu'
          obtain ⟨y, hy, rfl⟩ := Option.map_eq_some_iff.mp hn'
          obtain ⟨hy1, hy2⟩ := List.mem_filter.mp (List.mem_of_getElem? hy)
          have hy2 : y.2 = m := by simpa using hy2
          have hsn : (Z.2.filter fun y => y.2 == m).take (q + 1) = (Z.2.filter fun y => y.2 == m).take q ++ [y] := by rw [List.take_add_one, hy]; rfl
          rw [hsn, setsF_snoc, hy2] at hN3
          walk_at "wp"
          refine asN_of (i := y.1.2.2) (ixN_at (by rw [List.length_map, setsF_len, upF_len, hl1]; exact hlt y hy1) rfl) ?_
          walk_at "wp"
          refine hN3 _ ⟨.int y.1.2.2, x8, ?_⟩
          rw [List.map_set]
        · rintro env ⟨x7, x8, rfl⟩
          rw [List.length_map, List.length_map, List.length_map, List.take_length]
          walk_at "wp"
          refine hN2 _ ⟨.d (.lst (((Z.2.filter fun y => y.2 == m).map (·.1.2.2)).map fun n => D.int ((n : Nat) : Int))), x7, x8, ?_⟩
          have e1 : s1.1 + (m : Int) * w + w = s1.1 + ((m + 1 : Nat) : Int) * w := by
            rw [show ((m + 1 : Nat) : Int) = (m : Int) + 1 by omega, Int.add_mul, Int.one_mul]
            omega
          rw [← e1]
          rfl
      · rintro env ⟨x6, x7, x8, rfl⟩
        rw [List.length_map, List.length_map, stripsF_len, upF_all hnd I.lt fun y hy => by rw [hl1]; exact hlt y hy]
        walk_at "wp"
        exact hN' _ ⟨_, _, _, _, rfl⟩
    · rintro env ⟨x5, x6, x7, x8, rfl⟩
      rw [rngC_len]
      walk_at "wp"
      exact hN _ ⟨_, _, _, _, _, rfl⟩
  rintro env ⟨x4, x5, x6, x7, x8, rfl⟩
  have e1 : (rngT 0 (maxL lv + 1).toNat).length = (rngI (maxL lv + 1).toNat).length := by rw [rngT_len]; unfold rngI; rw [List.length_map, List.length_range]
  rw [e1, List.take_length]
  walk_at "wp"
  exact hk
theorem ok_by_levels {P : Program} {w : World} {K : PySem.W.Frag} {mg : Str → Option Value} {base : Heap} (T : Tx K mg) : FnG P w K mg base CX0 2 T.a_by_levels T.fd_by_levels ["pieces", "levels"] (spT K 2 phi_by_levels) :=
  def_okG B_by_levels T.F_by_levels sc_by_levels sem_by_levels (fun cdv A outer s H E hG hr =>
      (d_seq (d_setLc (own := [("piece", 8)]) (i := 2) (fun j => j == 8) (by rfl) (own_1) rfl sc_by_levels.nd rfl rfl (sw_true rfl rfl rfl (by decide +kernel)) (d_iL (d_var (i := 0) (pv 0))) (blkOk_by (own := [("piece", 8)]) (N := N_by_levels) (sc := defScope s_by_levels) (by decide +kernel)) (fun _ _ _ _ _ => (d_gN (i := 8) (by rfl) (pg_name (i := 8) sc_by_levels.nd rfl (by first | exact Or.inl rfl | exact Or.inr rfl)))) (fun _ _ _ _ _ => d_tnil) (fun _ _ _ _ _ => d_int))
      (d_seq (d_set (i := 3) (by rfl) sc_by_levels.nd rfl (by first | exact Or.inl rfl | exact Or.inr rfl) d_int)
      (d_seq (d_for PassesOwn.never rfl (d_iR1 (by rfl) T.b_range (d_cons (d_bin op_addA rb_add (d_callBK (cr_maxDf rfl hr.units) rc_maxDj (by rfl) T.b_max (by decide +kernel) (d_cons (d_var (i := 1) (pv 1)) d_nil) (d_kcons (d_neg d_int) d_knil)) d_int) d_nil)) (d_gN (i := 4) (by rfl) (pg_name (i := 4) sc_by_levels.nd rfl (by first | exact Or.inl rfl | exact Or.inr rfl))) (d_last (d_for PassesOwn.never rfl (d_iR3 (by rfl) T.b_range (d_cons (d_c (pe_glob (by rfl) T.g_WIDEST T.r_WIDEST)) (d_cons d_int (d_cons (d_neg d_int) d_nil)))) (d_gN (i := 5) (by rfl) (pg_name (i := 5) sc_by_levels.nd rfl (by first | exact Or.inl rfl | exact Or.inr rfl))) (d_last (d_for PassesOwn.never rfl (d_iL (d_frz (d_callG0 (ok_strips_of T) hG (hr.mono (by decide)) (by rfl) T.m_strips_of T.F_strips_of.kp T.B_strips_of .nil (d_cons (d_frz (d_callG0 (ok_chosen_order T) hG (hr.mono (by decide)) (by rfl) T.m_chosen_order T.F_chosen_order.kp T.B_chosen_order .nil (d_cons (d_var (i := 0) (pv 0)) (d_cons (d_var (i := 1) (pv 1)) (d_cons (d_var (i := 4) (pv 4)) (d_cons (d_var (i := 5) (pv 5)) d_nil)))))) d_nil)))) (d_gN (i := 6) (by rfl) (pg_name (i := 6) sc_by_levels.nd rfl (by first | exact Or.inl rfl | exact Or.inr rfl))) (d_seq (d_for PassesOwn.never rfl (d_iL (d_var (i := 6) (pv 6))) (d_gN (i := 7) (by rfl) (pg_name (i := 7) sc_by_levels.nd rfl (by first | exact Or.inl rfl | exact Or.inr rfl))) (d_last (d_asg (d_var (i := 3) (pv 3)) (d_gSetL (i := 2) (pg_sub (pv 2) (d_var (i := 7) (pv 7)) set_list)))))
      (d_last (d_aug (i := 3) (by rfl) (rb_I0 (g := fun i j => .int (i + j))) sc_by_levels.nd rfl (by first | exact Or.inl rfl | exact Or.inr rfl) (d_var (i := 5) (pv 5)) ip_add))))))))
      (d_last (d_ret (d_mv (i := 2) (pv 2)))))))) (fun ts k e hl h => val_by_levels ts k e h)
abbrev N_greatest_crowd : List Str := ["order", "most", "first", "last", "number", "one"]
theorem sc_greatest_crowd : FnScope N_greatest_crowd ["order"] (defScope s_greatest_crowd) := ⟨rfl, rfl, rfl, by decide +kernel, rfl, by decide +kernel, by decide +kernel⟩
def phi_greatest_crowd : FT := fun ts k _ => ∃ (ps : List Pc) (lv : List Int) (L w : Int), ts = [.d (.lst ((ordF ps lv L w).map triD))] ∧ (∀ a ∈ ps, a.l ≤ a.r) ∧ lv.length = ps.length ∧ ps.length ≤ 100000 ∧ k (.int (lenG ps lv L w : Nat)) [.d (.lst ((ordF ps lv L w).map triD))]
def sem_greatest_crowd : SS :=
    (sSeq (sAsg (sC (.int 0)) (gN 1))
    (sSeq (sFor (sIL (sVar 0)) (gT 3 (gCons (gN 2) (gCons (gN 3) (gCons (gN 4) gNil)))) (sAsg (sFrz (sCB (fc2 fMax2) (sCons (sVar 1) (sCons (sCB (fc1 fLen) (sCons (sLc [5] (sIL (sVar 0)) (gN 5) (sTest (sChain fLe fLe (sBin fIx (sVar 5) (sC (.int 0))) (sVar 2) (sBin fIx (sVar 5) (sC (.int 1))))) (sVar 5)) sNil)) sNil)))) (gN 1)))
    (sRet (sVar 1))))
abbrev B_greatest_crowd : Nat → Bool := (fun j => j == 1 || j == 2 || j == 3 || j == 4)
theorem val_greatest_crowd (ts k e) (h : phi_greatest_crowd ts k e) : sem_greatest_crowd (endP B_greatest_crowd ts k fun _ _ => False) (ts ++ [.gone, .gone, .gone, .gone, .gone]) := by
  obtain ⟨ps, lv, L, w, rfl, hlr, hlv, hl, hk⟩ := h
  have I := ord_ok hlr lv L w
  have hlen := ord_len (L := L) (w := w) hlv
  have hG : lenG ps lv L w = (layF (ordF ps lv L w)).1.length := rfl
  rw [hG] at hk
  generalize hO : ordF ps lv L w = o at *
  walk_at "wp"
  refine forL_of (fun i env => ∃ (m : Nat) (x2 x3 x4 x5 : T), env = [.d (.lst (o.map triD)), .int m, x2, x3, x4, x5] ∧ m ≤ (layF o).1.length ∧ ∀ (j : Nat) (x : Tri), j < i → o[j]? = some x → crowd o x.1 ≤ m) ⟨0, _, _, _, _, rfl, Nat.zero_le _, fun j x h => absurd h (Nat.not_lt_zero _)⟩ ?_ ?_
  · rintro i t env N ht ⟨m, x2, x3, x4, x5, rfl, hm, hc⟩ hN
    rw [List.getElem?_map, List.getElem?_map] at ht
    obtain ⟨u', hu', rfl⟩ := Option.map_eq_some_iff.mp ht
    obtain ⟨x, hxi, rfl⟩ := Option.map_eq_some_iff.mp hu'
    walk_at "wp"
    refine ⟨by rw [List.length_map, List.length_map]; omega, ?_⟩
    refine lcL_of (fun j acc env => ∃ (x5 : T), acc = ((o.take j).filter (inT x.1)).map (fun x => .d (triD x)) ∧ env = [.d (.lst (o.map triD)), .int m, .int x.1, .int x.2.1, .int x.2.2, x5]) ⟨_, rfl, rfl⟩ ?_ ?_
    · rintro j t acc env N' ht' ⟨x5, rfl, rfl⟩ hN'
      rw [List.getElem?_map, List.getElem?_map] at ht'
      obtain ⟨u', hu', rfl⟩ := Option.map_eq_some_iff.mp ht'
      obtain ⟨y, hyi, rfl⟩ := Option.map_eq_some_iff.mp hu'
      have est : (o.take (j + 1)).filter (inT x.1) = (o.take j).filter (inT x.1) ++ if inT x.1 y = true then [y] else [] := by
        rw [List.take_add_one, hyi, List.filter_append]
        congr 1
        show [y].filter _ = _
        rw [List.filter_cons]
        rfl
      walk_at "wp"
      refine wh_d (fun h1 => ?_) (fun h1 => ?_)
      · walk_at "wp"
        refine wh_d (fun h2 => ?_) (fun h2 => ?_)
        · walk_at "wp"
          refine hN' _ _ ⟨_, ?_, rfl⟩
          rw [est, if_pos (inT_iff.mpr ⟨h1, h2⟩), List.map_append]
          rfl
        · walk_at "wp"
          refine hN' _ _ ⟨_, ?_, rfl⟩
          rw [est, if_neg fun z => h2 (inT_iff.mp z).2, List.append_nil]
      · walk_at "wp"
        refine hN' _ _ ⟨_, ?_, rfl⟩
        rw [est, if_neg fun z => h1 (inT_iff.mp z).1, List.append_nil]
    rintro acc env ⟨y5, rfl, rfl⟩
    rw [List.length_map, List.length_map, List.take_length]
    have hcl : ((o.filter (inT x.1)).map fun x => T.d (triD x)).length = crowd o x.1 := List.length_map ..
    walk_at "wp"
    rw [hcl]
    have hmx : (if (crowd o x.1 : Int) > (m : Int) then (crowd o x.1 : Int) else (m : Int)) = ((max m (crowd o x.1) : Nat) : Int) := by split <;> omega
    have hcI := I.le x.1
    refine hN _ ⟨max m (crowd o x.1), .int x.1, .int x.2.1, .int x.2.2, x5, by
      show [_, T.int (if (crowd o x.1 : Int) > (m : Int) then (crowd o x.1 : Int) else (m : Int)), _, _, _, _] = _
      rw [hmx]
      rfl, by omega, fun j y hj hy => ?_⟩
    rcases (show j < i ∨ j = i by omega) with z | z
    · have := hc j y z hy
      omega
    · subst z
      rw [hxi] at hy
      cases hy
      omega
  rintro env ⟨m, x2, x3, x4, x5, rfl, hm, hc⟩
  rw [List.length_map, List.length_map] at hc
  have hfin : m = (layF o).1.length := by
    by_cases e : (layF o).1.length = 0
    · omega
    · obtain ⟨x, hx, h2⟩ := I.wit e
      obtain ⟨j, hj⟩ := List.mem_iff_getElem?.mp hx
      have := hc j x (List.getElem?_eq_some_iff.mp hj).1 hj
      omega
  subst hfin
  walk_at "wp"
  exact hk
theorem ok_greatest_crowd {P : Program} {w : World} {K : PySem.W.Frag} {mg : Str → Option Value} {base : Heap} (T : Tx K mg) : FnG P w K mg base CX0 1 T.a_greatest_crowd T.fd_greatest_crowd ["order"] (spT K 1 phi_greatest_crowd) :=
  def_okG B_greatest_crowd T.F_greatest_crowd sc_greatest_crowd sem_greatest_crowd (fun cdv A outer s H E hG hr =>
      (d_seq (d_set (i := 1) (by rfl) sc_greatest_crowd.nd rfl (by first | exact Or.inl rfl | exact Or.inr rfl) d_int)
      (d_seq (d_for PassesOwn.never rfl (d_iL (d_var (i := 0) (pv 0))) (d_gT rfl (d_gcons (d_gN (i := 2) (by rfl) (pg_name (i := 2) sc_greatest_crowd.nd rfl (by first | exact Or.inl rfl | exact Or.inr rfl))) (d_gcons (d_gN (i := 3) (by rfl) (pg_name (i := 3) sc_greatest_crowd.nd rfl (by first | exact Or.inl rfl | exact Or.inr rfl))) (d_gcons (d_gN (i := 4) (by rfl) (pg_name (i := 4) sc_greatest_crowd.nd rfl (by first | exact Or.inl rfl | exact Or.inr rfl))) d_gnil)))) (d_last (d_set (i := 1) (by rfl) sc_greatest_crowd.nd rfl (by first | exact Or.inl rfl | exact Or.inr rfl) (d_frz (d_callB (cr_max2 rfl) (rc2 rb_I0) (by rfl) T.b_max (by decide +kernel) (d_cons (d_var (i := 1) (pv 1)) (d_cons (d_callB cr_len rc_len (by rfl) T.b_len (by decide +kernel) (d_cons (d_lc (own := [("one", 5)]) (fun j => j == 5) (own_1) rfl sc_greatest_crowd.nd (d_iL (d_var (i := 0) (pv 0))) (blkOk_by (own := [("one", 5)]) (N := N_greatest_crowd) (sc := defScope s_greatest_crowd) (by decide +kernel)) (fun _ _ _ _ _ => (d_gN (i := 5) (by rfl) (pg_name (i := 5) sc_greatest_crowd.nd rfl (by first | exact Or.inl rfl | exact Or.inr rfl)))) (fun _ _ _ _ _ => (d_tone (d_tchain op_leA op_leA rb_cmp rb_cmp (d_ix ix_seq rb_ix (d_var (i := 5) (pv 5)) d_int) (d_var (i := 2) (pv 2)) (d_ix ix_seq rb_ix (d_var (i := 5) (pv 5)) d_int)))) (fun _ _ _ _ _ => (d_var (i := 5) (pv 5)))) d_nil)) d_nil)))))))
      (d_last (d_ret (d_var (i := 1) (pv 1))))))) (fun ts k e hl h => val_greatest_crowd ts k e h)
abbrev N_bound_of : List Str := ["pieces", "levels", "bound", "level", "width"]
theorem sc_bound_of : FnScope N_bound_of ["pieces", "levels"] (defScope s_bound_of) := ⟨rfl, rfl, rfl, by decide +kernel, rfl, by decide +kernel, by decide +kernel⟩
def phi_bound_of : FT := fun ts k _ => ∃ (ps : List Pc) (lv : List Int), ts = [pcsT ps, .d (intsD lv)] ∧ (∀ a ∈ ps, a.l ≤ a.r) ∧ lv.length = ps.length ∧ ps.length ≤ 100000 ∧ (∀ x ∈ lv, 0 ≤ x ∧ x ≤ 10000) ∧ k (.int (bndF ps lv)) [pcsT ps, .d (intsD lv)]
def sem_bound_of : SS :=
    (sSeq (sAsg (sC (.int 0)) (gN 2))
    (sSeq (sFor (sIR1 (sCons (sBin fAdd (sCK fMaxDj (sCons (sVar 1) sNil) (sCons (sNeg (sC (.int 1))) sNil)) (sC (.int 1))) sNil)) (gN 3) (sFor (sIR3 (sCons (sC (.int 3)) (sCons (sC (.int 0)) (sCons (sNeg (sC (.int 1))) sNil)))) (gN 4) (sAug (fI0 fun i j => .int (i + j)) 2 (sBin fMulX (sVar 4) (sCall0 1 phi_greatest_crowd [] (sCons (sFrz (sCall0 4 phi_chosen_order [] (sCons (sVar 0) (sCons (sVar 1) (sCons (sVar 3) (sCons (sVar 4) sNil)))))) sNil))))))
    (sRet (sVar 2))))
abbrev B_bound_of : Nat → Bool := (fun j => j == 2 || j == 3 || j == 4)
theorem val_bound_of (ts k e) (h : phi_bound_of ts k e) : sem_bound_of (endP B_bound_of ts k fun _ _ => False) (ts ++ [.gone, .gone, .gone]) := by
  obtain ⟨ps, lv, rfl, hlr, hlv, hl, h0, hk⟩ := h
  have hml := maxL_bd (n := 10000) (by decide) fun x hx => (h0 x hx).2
  walk_at "wp"
  refine ⟨lv, by rw [List.map_map]; rfl, ?_⟩
  walk_at "wp"
  intro m hm1 hm2
  obtain rfl := maxL_of hm1 hm2 fun x hx => (h0 x hx).1
  walk_at "wp"
  refine ⟨⟨by omega, by omega⟩, ?_⟩
  have hN0 : ∀ i, (rngI (maxL lv + 1).toNat)[i]? = if i < (maxL lv + 1).toNat then some (i : Int) else none := fun i => by
    split
    · rename_i h; exact rngI_get h
    · rename_i h
      exact List.getElem?_eq_none (by unfold rngI; rw [List.length_map, List.length_range]; omega)
  refine forL_of (fun i env => ∃ (x3 x4 : T), env = [pcsT ps, .d (intsD lv), .int (levF ps lv ((rngI (maxL lv + 1).toNat).take i)).1, x3, x4]) ⟨_, _, rfl⟩ ?_ ?_
  · rintro i t env N ht ⟨x3, x4, rfl⟩ hN
    obtain ⟨hi, rfl⟩ := rngT_get ht
    have hst := levF_take (ps := ps) (lv := lv) (rngI_get hi)
    have hsf := stepL_fst ps lv (levF ps lv ((rngI (maxL lv + 1).toNat).take i)) (i : Int)
    generalize hB : (levF ps lv ((rngI (maxL lv + 1).toNat).take i)).1 = b0 at *
    rw [Int.zero_add]
    walk_at "wp"
    refine ⟨3, RgC.neg (by decide) (by decide) (by decide) (by decide), ?_⟩
    refine forL_of (fun j env => ∃ (x4 : T), env = [pcsT ps, .d (intsD lv), .int (if j = 0 then b0 else if j = 1 then b0 + lenG ps lv i 3 * 3 else if j = 2 then b0 + lenG ps lv i 3 * 3 + lenG ps lv i 2 * 2 else b0 + lenG ps lv i 3 * 3 + lenG ps lv i 2 * 2 + lenG ps lv i 1 * 1), .int i, x4]) ⟨_, rfl⟩ ?_ ?_
    · rintro j t env N' ht' ⟨x4, rfl⟩ hN'
      obtain ⟨hj, rfl⟩ := rngC_get ht'
      walk_at "wp"
      refine ⟨ps, lv, (i : Int), 3 + (j : Int) * -1, rfl, hlv, hl, ?_⟩
      walk_at "wp"
      refine ⟨ps, lv, (i : Int), 3 + (j : Int) * -1, ?_, hlr, hlv, hl, ?_⟩
      · show [T.d (.lst (frzL ((ordF ps lv i (3 + (j : Int) * -1)).map fun x => .d (triD x))))] = _
        rw [frzL_of (g := triD) fun _ => rfl]
      walk_at "wp"
      have hlG : lenG ps lv i (3 + (j : Int) * -1) ≤ 100000 := by
        have h1 := lay_le (ord_ok hlr lv i (3 + (j : Int) * -1))
        have h2 := ord_len (L := i) (w := 3 + (j : Int) * -1) hlv
        unfold lenG
        omega
      refine ⟨cmul_r (by omega) (by omega), ?_⟩
      walk_at "wp"
      refine hN' _ ⟨.int (3 + (j : Int) * -1), ?_⟩
      rcases (show j = 0 ∨ j = 1 ∨ j = 2 by omega) with z | z | z
      · subst z
        show [_, _, T.int (b0 + (3 + ((0 : Nat) : Int) * -1) * (lenG ps lv i 3 : Int)), _, _] = [_, _, T.int (b0 + lenG ps lv i 3 * 3), _, _]
        rw [show (3 + ((0 : Nat) : Int) * -1) = 3 from rfl, Int.mul_comm]
      · subst z
        show [_, _, T.int (b0 + lenG ps lv i 3 * 3 + (3 + ((1 : Nat) : Int) * -1) * (lenG ps lv i 2 : Int)), _, _] = [_, _, T.int (b0 + lenG ps lv i 3 * 3 + lenG ps lv i 2 * 2), _, _]
        rw [show (3 + ((1 : Nat) : Int) * -1) = 2 from rfl, Int.mul_comm 2]
      · subst z
        show [_, _, T.int (b0 + lenG ps lv i 3 * 3 + lenG ps lv i 2 * 2 + (3 + ((2 : Nat) : Int) * -1) * (lenG ps lv i 1 : Int)), _, _] = [_, _, T.int (b0 + lenG ps lv i 3 * 3 + lenG ps lv i 2 * 2 + lenG ps lv i 1 * 1), _, _]
        rw [show (3 + ((2 : Nat) : Int) * -1) = 1 from rfl, Int.mul_comm 1]
    rintro env ⟨x4, rfl⟩
    rw [rngC_len]
    walk_at "wp"
    refine hN _ ⟨.int i, x4, ?_⟩
    rw [hst, hsf]
    rfl
  rintro env ⟨x3, x4, rfl⟩
  have e1 : (rngT 0 (maxL lv + 1).toNat).length = (rngI (maxL lv + 1).toNat).length := by rw [rngT_len]; unfold rngI; rw [List.length_map, List.length_range]
  rw [e1, List.take_length]
  walk_at "wp"
  exact hk
theorem ok_bound_of {P : Program} {w : World} {K : PySem.W.Frag} {mg : Str → Option Value} {base : Heap} (T : Tx K mg) : FnG P w K mg base CX0 2 T.a_bound_of T.fd_bound_of ["pieces", "levels"] (spT K 2 phi_bound_of) :=
  def_okG B_bound_of T.F_bound_of sc_bound_of sem_bound_of (fun cdv A outer s H E hG hr =>
      (d_seq (d_set (i := 2) (by rfl) sc_bound_of.nd rfl (by first | exact Or.inl rfl | exact Or.inr rfl) d_int)
      (d_seq (d_for PassesOwn.never rfl (d_iR1 (by rfl) T.b_range (d_cons (d_bin op_addA rb_add (d_callBK (cr_maxDf rfl hr.units) rc_maxDj (by rfl) T.b_max (by decide +kernel) (d_cons (d_var (i := 1) (pv 1)) d_nil) (d_kcons (d_neg d_int) d_knil)) d_int) d_nil)) (d_gN (i := 3) (by rfl) (pg_name (i := 3) sc_bound_of.nd rfl (by first | exact Or.inl rfl | exact Or.inr rfl))) (d_last (d_for PassesOwn.never rfl (d_iR3 (by rfl) T.b_range (d_cons (d_c (pe_glob (by rfl) T.g_WIDEST T.r_WIDEST)) (d_cons d_int (d_cons (d_neg d_int) d_nil)))) (d_gN (i := 4) (by rfl) (pg_name (i := 4) sc_bound_of.nd rfl (by first | exact Or.inl rfl | exact Or.inr rfl))) (d_last (d_aug (i := 2) (by rfl) (rb_I0 (g := fun i j => .int (i + j))) sc_bound_of.nd rfl (by first | exact Or.inl rfl | exact Or.inr rfl) (d_bin op_mulY rb_mulX (d_var (i := 4) (pv 4)) (d_callG0 (ok_greatest_crowd T) hG (hr.mono (by decide)) (by rfl) T.m_greatest_crowd T.F_greatest_crowd.kp T.B_greatest_crowd .nil (d_cons (d_frz (d_callG0 (ok_chosen_order T) hG (hr.mono (by decide)) (by rfl) T.m_chosen_order T.F_chosen_order.kp T.B_chosen_order .nil (d_cons (d_var (i := 0) (pv 0)) (d_cons (d_var (i := 1) (pv 1)) (d_cons (d_var (i := 3) (pv 3)) (d_cons (d_var (i := 4) (pv 4)) d_nil)))))) d_nil))) ip_add)))))
      (d_last (d_ret (d_var (i := 2) (pv 2))))))) (fun ts k e hl h => val_bound_of ts k e h)
abbrev N_law_box : List Str := ["script", "k", "cell"]
theorem sc_law_box : FnScope N_law_box ["script", "k"] (defScope s_law_box) := ⟨rfl, rfl, rfl, by decide +kernel, rfl, by decide +kernel, by decide +kernel⟩
def phi_law_box : FT := fun ts k _ => ∃ (xs : List Int) (i : Int), ts = [.d (.lst (xs.map D.int)), .int i] ∧ 0 ≤ i ∧ i ≤ 63 ∧
  ∀ a b, 0 ≤ a → 0 ≤ b → b < 2147483647 → k (boxT a b 0) [.d (.lst (xs.map D.int)), .int i]
def sem_law_box : SS :=
    (sSeq (sAsg (sFrz (sIf (sTest (sBin fLt (sVar 1) (sCB (fc1 fLen) (sCons (sVar 0) sNil)))) (sBin fIx (sVar 0) (sVar 1)) (sC (.int 0)))) (gN 2))
    (sRet (sLst (sCons (sBin fMulX (sCB (fc1 fAbs) (sCons (sVar 2) sNil)) (sCB (fc1 fInt) (sCons (sBin fGe (sCB (fc1 fAbs) (sCons (sVar 2) sNil)) (sBin fPow (sC (.int 10)) (sC (.int 18)))) sNil))) (sCons (sBin fMod (sBin fMulX (sBin fAdd (sBin fAdd (sBin fMod (sVar 2) (sC (.int 2147483629))) (sBin fMulX (sC (.int 15485863)) (sVar 1))) (sC (.int 37))) (sC (.int 48271))) (sC (.int 2147483647))) (sCons (sC (.int 0)) sNil))))))
abbrev B_law_box : Nat → Bool := (fun j => j == 2)
theorem val_law_box (ts k e) (h : phi_law_box ts k e) : sem_law_box (endP B_law_box ts k fun _ _ => False) (ts ++ [.gone]) := by
  obtain ⟨xs, i, rfl, hi, hi2, hk⟩ := h
  walk_at "wp"
  refine wh_d (fun h0 => ?_) (fun h0 => ?_)
  · walk_at "wp"
    obtain ⟨c, hc, e⟩ := at_map hi h0
    refine asO_of e ?_
    walk_at "wp"
    refine ⟨⟨by decide, by decide, by decide⟩, ?_⟩
    walk_at "wp"
    refine ⟨cmul_r (b01_nn _) (Int.lt_trans (b01_lt _) (by decide)), ?_⟩
    walk_at "go"
    exact hk _ _ (Int.mul_nonneg (abs_nn _) (b01_nn _)) (by omega) (by omega)
  · walk_at "go"
    exact hk _ _ (Int.mul_nonneg (abs_nn _) (b01_nn _)) (Int.emod_nonneg _ (by decide)) (Int.emod_lt_of_pos _ (by decide))
theorem ok_law_box {P : Program} {w : World} {K : PySem.W.Frag} {mg : Str → Option Value} {base : Heap} (T : Tx K mg) : FnG P w K mg base CX0 1 T.a_law_box T.fd_law_box ["script", "k"] (spT K 2 phi_law_box) :=
  def_okG B_law_box T.F_law_box sc_law_box sem_law_box (fun cdv A outer s H E hG hr =>
      (d_seq (d_set (i := 2) (by rfl) sc_law_box.nd rfl (by first | exact Or.inl rfl | exact Or.inr rfl) (d_frz (d_if (d_tcmp op_ltA rb_cmp (d_var (i := 1) (pv 1)) (d_callB cr_len rc_len (by rfl) T.b_len (by decide +kernel) (d_cons (d_var (i := 0) (pv 0)) d_nil)) (nomark _)) (d_ix ix_seq rb_ix (d_var (i := 0) (pv 0)) (d_var (i := 1) (pv 1))) d_int)))
      (d_last (d_ret (d_lst (d_cons (d_bin op_mulY rb_mulX (d_callB cr_abs rc_abs (by rfl) T.b_abs (by decide +kernel) (d_cons (d_var (i := 2) (pv 2)) d_nil)) (d_callTy cr_int rc_int (by rfl) T.b_int (by decide +kernel) (d_cons (d_cmp op_geA rb_cmp (d_callB cr_abs rc_abs (by rfl) T.b_abs (by decide +kernel) (d_cons (d_var (i := 2) (pv 2)) d_nil)) (d_bin op_pow rb_I d_int d_int) (nomark _)) d_nil))) (d_cons (d_bin op_mod rb_I (d_bin op_mulY rb_mulX (d_bin op_addA rb_add (d_bin op_addA rb_add (d_bin op_mod rb_I (d_var (i := 2) (pv 2)) d_int) (d_bin op_mulY rb_mulX d_int (d_var (i := 1) (pv 1)))) d_int) d_int) d_int) (d_cons d_int d_nil)))))))) (fun ts k e hl h => val_law_box ts k e h)
abbrev N_law_take : List Str := ["box", "size", "found", "step", "once", "twice"]
theorem sc_law_take : FnScope N_law_take ["box", "size"] (defScope s_law_take) := ⟨rfl, rfl, rfl, by decide +kernel, rfl, by decide +kernel, by decide +kernel⟩
def phi_law_take : FT := fun ts k _ => ∃ a b c n : Int, ts = [boxT a b c, .int n] ∧ 0 ≤ a ∧ 0 ≤ b ∧ b < 2147483647 ∧ 0 ≤ c ∧ c ≤ 1000000000 ∧ 0 < n ∧ n < 1073741824 ∧
  ∀ r a' c', 0 ≤ r → r < n → 0 ≤ a' → c ≤ c' → c' ≤ c + 1 → k (.int r) [boxT a' b c', .int n]
def sem_law_take : SS :=
    (sSeq (sIfS (sRdB (sTest (sBin fGt (sBin fIx (sVar 0) (sC (.int 0))) (sC (.int 0))))) (sSeq (sAsg (sRd (sCB (fc2 fDivmod) (sCons (sBin fIx (sVar 0) (sC (.int 0))) (sCons (sVar 1) sNil)))) (gT 2 (gCons (gSetL 0 (sC (.int 0))) (gCons (gN 2) gNil))))
    (sRet (sVar 2))) sSkip)
    (sSeq (sAsg (sBin fAdd (sRd (sBin fIx (sVar 0) (sC (.int 2)))) (sC (.int 1))) (gSetL 0 (sC (.int 2))))
    (sSeq (sAsg (sFrz (sBin fAdd (sC (.int 69621)) (sBin fMulX (sRd (sBin fIx (sVar 0) (sC (.int 2)))) (sRd (sBin fIx (sVar 0) (sC (.int 2))))))) (gN 3))
    (sSeq (sAsg (sFrz (sBin fMod (sBin fMulX (sBin fAdd (sRd (sBin fIx (sVar 0) (sC (.int 1)))) (sBin fMulX (sC (.int 39373)) (sRd (sBin fIx (sVar 0) (sC (.int 2)))))) (sVar 3)) (sC (.int 2147483587)))) (gN 4))
    (sSeq (sAsg (sFrz (sBin fMod (sBin fAdd (sBin fMulX (sVar 4) (sBin fAdd (sBin fMod (sVar 4) (sC (.int 30011))) (sC (.int 5)))) (sRd (sBin fIx (sVar 0) (sC (.int 2))))) (sC (.int 2147483563)))) (gN 5))
    (sRet (sBin fMod (sBin fDiv (sBin fMod (sBin fMulX (sVar 5) (sBin fAdd (sBin fMod (sVar 5) (sC (.int 1013))) (sC (.int 3)))) (sC (.int 998244353))) (sC (.int 16))) (sVar 1))))))))
abbrev B_law_take : Nat → Bool := (fun j => j == 2 || j == 3 || j == 4 || j == 5)
theorem val_law_take (ts k e) (h : phi_law_take ts k e) : sem_law_take (endP B_law_take ts k fun _ _ => False) (ts ++ [.gone, .gone, .gone, .gone]) := by
  obtain ⟨a, b, c, n, rfl, ha, hb, hb2, hc, hc2, hn, hn2, hk⟩ := h
  walk_at "wp"
  refine wh_d (fun h0 => ?_) (fun h0 => ?_)
  · walk_at "go"
    exact hk _ _ _ (Int.emod_nonneg _ (by omega)) (Int.emod_lt_of_pos _ hn) (Int.ediv_nonneg (by omega) (by omega)) (by omega) (by omega)
  · walk_at "go"
    exact hk _ _ _ (Int.emod_nonneg _ (by omega)) (Int.emod_lt_of_pos _ hn) (by omega) (by omega) (by omega)
theorem ok_law_take {P : Program} {w : World} {K : PySem.W.Frag} {mg : Str → Option Value} {base : Heap} (T : Tx K mg) : FnG P w K mg base CX0 1 T.a_law_take T.fd_law_take ["box", "size"] (spT K 2 phi_law_take) :=
  def_okG B_law_take T.F_law_take sc_law_take sem_law_take (fun cdv A outer s H E hG hr =>
      (d_seq (d_ifS (d_rdB (d_tcmp op_gtA rb_cmp (d_ix ix_seq rb_ix (d_var (i := 0) (pv 0)) d_int) d_int (nomark _))) (d_seq (d_asg (d_rd (d_callB cr_divmod (rc2 rb_divmod) (by rfl) T.b_divmod (by decide +kernel) (d_cons (d_ix ix_seq rb_ix (d_var (i := 0) (pv 0)) d_int) (d_cons (d_var (i := 1) (pv 1)) d_nil)))) (d_gT rfl (d_gcons (d_gSetL (i := 0) (pg_sub (pv 0) d_int set_list)) (d_gcons (d_gN (i := 2) (by rfl) (pg_name (i := 2) sc_law_take.nd rfl (by first | exact Or.inl rfl | exact Or.inr rfl))) d_gnil))))
      (d_last (d_ret (d_var (i := 2) (pv 2))))) d_skip)
      (d_seq (d_asg (d_bin op_addA rb_add (d_rd (d_ix ix_seq rb_ix (d_var (i := 0) (pv 0)) d_int)) d_int) (d_gSetL (i := 0) (pg_sub (pv 0) d_int set_list)))
      (d_seq (d_set (i := 3) (by rfl) sc_law_take.nd rfl (by first | exact Or.inl rfl | exact Or.inr rfl) (d_frz (d_bin op_addA rb_add d_int (d_bin op_mulY rb_mulX (d_rd (d_ix ix_seq rb_ix (d_var (i := 0) (pv 0)) d_int)) (d_rd (d_ix ix_seq rb_ix (d_var (i := 0) (pv 0)) d_int))))))
      (d_seq (d_set (i := 4) (by rfl) sc_law_take.nd rfl (by first | exact Or.inl rfl | exact Or.inr rfl) (d_frz (d_bin op_mod rb_I (d_bin op_mulY rb_mulX (d_bin op_addA rb_add (d_rd (d_ix ix_seq rb_ix (d_var (i := 0) (pv 0)) d_int)) (d_bin op_mulY rb_mulX d_int (d_rd (d_ix ix_seq rb_ix (d_var (i := 0) (pv 0)) d_int)))) (d_var (i := 3) (pv 3))) d_int)))
      (d_seq (d_set (i := 5) (by rfl) sc_law_take.nd rfl (by first | exact Or.inl rfl | exact Or.inr rfl) (d_frz (d_bin op_mod rb_I (d_bin op_addA rb_add (d_bin op_mulY rb_mulX (d_var (i := 4) (pv 4)) (d_bin op_addA rb_add (d_bin op_mod rb_I (d_var (i := 4) (pv 4)) d_int) d_int)) (d_rd (d_ix ix_seq rb_ix (d_var (i := 0) (pv 0)) d_int))) d_int)))
      (d_last (d_ret (d_bin op_mod rb_I (d_bin op_fdiv rb_I (d_bin op_mod rb_I (d_bin op_mulY rb_mulX (d_var (i := 5) (pv 5)) (d_bin op_addA rb_add (d_bin op_mod rb_I (d_var (i := 5) (pv 5)) d_int) d_int)) d_int) d_int) (d_var (i := 1) (pv 1))))))))))) (fun ts k e hl h => val_law_take ts k e h)
abbrev N_law_folded : List Str := ["script", "size", "cells", "k", "cell"]
theorem sc_law_folded : FnScope N_law_folded ["script", "size"] (defScope s_law_folded) := ⟨rfl, rfl, rfl, by decide +kernel, rfl, by decide +kernel, by decide +kernel⟩
def phi_law_folded : FT := fun ts k _ => ∃ (ns : List Int) (n : Nat), ts = [.d (.lst (ns.map D.int)), .int n] ∧ 0 < n ∧ n < 100 ∧ ns.length ≤ 63 ∧
  ∀ ms : List Int, ms.length = min n ns.length → k (.lst (ms.map T.int)) [.d (.lst (ns.map D.int)), .int n]
def sem_law_folded : SS :=
    (sSeq (sAsg (sCB (fc1 fList) (sCons (sSl fSl (sVar 0) sNoPart (sPart (sVar 1))) sNil)) (gN 2))
    (sSeq (sFor (sIE (sCons (sSl fSl (sVar 0) (sPart (sVar 1)) (sPart (sC (.int 63)))) sNil)) (gT 2 (gCons (gN 3) (gCons (gN 4) gNil))) (sAsg (sBin fAdd (sRd (sBin fIx (sVar 2) (sBin fMod (sVar 3) (sVar 1)))) (sBin fMulX (sVar 4) (sBin fAdd (sVar 3) (sC (.int 2))))) (gSetL 2 (sBin fMod (sVar 3) (sVar 1)))))
    (sRet (sMv 2))))
abbrev B_law_folded : Nat → Bool := (fun j => j == 2 || j == 3 || j == 4)
theorem val_law_folded (ts k e) (h : phi_law_folded ts k e) : sem_law_folded (endP B_law_folded ts k fun _ _ => False) (ts ++ [.gone, .gone, .gone]) := by
  obtain ⟨ns, n, rfl, hn, hn2, hl, hk⟩ := h
  walk_at "wp"
  refine forL_of (fun i env => ∃ (ms : List Int) (x y : T), env = [.d (.lst (ns.map D.int)), .int n, .lst (ms.map T.int), x, y] ∧ ms.length = min n ns.length) ⟨ns.take n, .gone, .gone, ?_, ?_⟩ ?_ ?_
  · rw [List.map_map, cutG_map, cutG_to]
    rfl
  · simp
  · rintro i t env N ht ⟨ms, x, y, rfl, hm⟩ hN
    rw [List.map_map, cutG_map] at ht
    obtain ⟨u, hu, rfl⟩ := enumT_get ht
    have h1 : i < (cutG ns (some (n : Int)) (some ((63 : Nat) : Int))).length := by
      have := (List.getElem?_eq_some_iff.mp hu).1
      rwa [List.length_map] at this
    rw [cutG_ft] at h1
    simp only [List.length_drop, List.length_take] at h1
    rw [List.getElem?_map] at hu
    obtain ⟨c, hc, rfl⟩ := Option.map_eq_some_iff.mp hu
    have hlt : i % n < ms.length := by
      have := Nat.mod_lt i hn
      omega
    have hat : (ms.map T.int)[i % n]? = some (.int (ms[i % n])) := by rw [List.getElem?_map, List.getElem?_eq_getElem hlt]; rfl
    walk_at "wp"
    refine ⟨show (0 : Int) < n by omega, ?_⟩
    walk_at "wp"
    refine asO_at (n := i % n) (Int.natCast_emod i n).symm (frzL_at hat) ?_
    walk_at "wp"
    refine ⟨cmul_r (by omega) (by omega), ?_⟩
    walk_at "wp"
    refine ⟨show (0 : Int) < n by omega, ?_⟩
    walk_at "wp"
    refine asN_of (i := i % n) (ixN_at ?_ (Int.natCast_emod i n).symm) ?_
    · rw [List.length_map]
      exact hlt
    refine hN _ ⟨ms.set (i % n) (ms[i % n] + c * ((i : Int) + 2)), .int i, .int c, ?_, ?_⟩
    · rw [List.map_set]
    · rw [List.length_set]
      exact hm
  · rintro env ⟨ms, x, y, rfl, hm⟩
    walk_at "wp"
    exact hk ms hm
theorem ok_law_folded {P : Program} {w : World} {K : PySem.W.Frag} {mg : Str → Option Value} {base : Heap} (T : Tx K mg) : FnG P w K mg base CX0 1 T.a_law_folded T.fd_law_folded ["script", "size"] (spT K 2 phi_law_folded) :=
  def_okG B_law_folded T.F_law_folded sc_law_folded sem_law_folded (fun cdv A outer s H E hG hr =>
      (d_seq (d_set (i := 2) (by rfl) sc_law_folded.nd rfl (by first | exact Or.inl rfl | exact Or.inr rfl) (d_callTy cr_list rc_list (by rfl) T.b_list (by decide +kernel) (d_cons (d_sl sl_A rsl (d_var (i := 0) (pv 0)) d_onone (d_osome (d_var (i := 1) (pv 1)))) d_nil)))
      (d_seq (d_for PassesOwn.never rfl (d_iE (by rfl) T.b_enumerate (d_cons (d_sl sl_A rsl (d_var (i := 0) (pv 0)) (d_osome (d_var (i := 1) (pv 1))) (d_osome d_int)) d_nil)) (d_gT rfl (d_gcons (d_gN (i := 3) (by rfl) (pg_name (i := 3) sc_law_folded.nd rfl (by first | exact Or.inl rfl | exact Or.inr rfl))) (d_gcons (d_gN (i := 4) (by rfl) (pg_name (i := 4) sc_law_folded.nd rfl (by first | exact Or.inl rfl | exact Or.inr rfl))) d_gnil))) (d_last (d_asg (d_bin op_addA rb_add (d_rd (d_ix ix_seq rb_ix (d_var (i := 2) (pv 2)) (d_bin op_mod rb_I (d_var (i := 3) (pv 3)) (d_var (i := 1) (pv 1))))) (d_bin op_mulY rb_mulX (d_var (i := 4) (pv 4)) (d_bin op_addA rb_add (d_var (i := 3) (pv 3)) d_int))) (d_gSetL (i := 2) (pg_sub (pv 2) (d_bin op_mod rb_I (d_var (i := 3) (pv 3)) (d_var (i := 1) (pv 1))) set_list)))))
      (d_last (d_ret (d_mv (i := 2) (pv 2))))))) (fun ts k e hl h => val_law_folded ts k e h)
abbrev N_law_word : List Str := ["box", "size", "k"]
theorem sc_law_word : FnScope N_law_word ["box", "size"] (defScope s_law_word) := ⟨rfl, rfl, rfl, by decide +kernel, rfl, by decide +kernel, by decide +kernel⟩
def Low (z : Str) : Prop := ∀ c ∈ z.cps.toList, 97 ≤ c ∧ c ≤ 122
theorem lets_low {q l : Nat} (h : (Str.ofString "abcdefghijklmnopqrstuvwxyz").cps.toList[q]? = some l) : 97 ≤ l ∧ l ≤ 122 := by
  have e : (Str.ofString "abcdefghijklmnopqrstuvwxyz").cps.toList = (List.range 26).map (· + 97) := by decide +kernel
  rw [e] at h
  have hm := List.mem_of_getElem? h
  obtain ⟨a, ha, rfl⟩ := List.mem_map.mp hm
  have := List.mem_range.mp ha
  omega
def phi_law_word : FT := fun ts k _ => ∃ (a b c : Int) (n : Nat), ts = [boxT a b c, .int n] ∧ 0 ≤ a ∧ 0 ≤ b ∧ b < 2147483647 ∧ 0 ≤ c ∧ c + n ≤ 1000000000 ∧ n ≤ 1000 ∧
  ∀ (z : Str) a' c', z.length = n → Low z → 0 ≤ a' → c ≤ c' → c' ≤ c + n → k (.str z) [boxT a' b c', .int n]
def sem_law_word : SS :=
    (sRet (sJoin (sC (.str "")) (sLc [2] (sIR1 (sCons (sVar 1) sNil)) (gN 2) sYes (sBin fIx (sC (.str "abcdefghijklmnopqrstuvwxyz")) (sCall0 2 phi_law_take [] (sLend 0 (sCons (sC (.int 26)) sNil)))))))
abbrev B_law_word : Nat → Bool := (fun j => false)
theorem val_law_word (ts k e) (h : phi_law_word ts k e) : sem_law_word (endP B_law_word ts k fun _ _ => False) (ts ++ [.gone]) := by
  obtain ⟨a, b, c, n, rfl, ha, hb, hb2, hc, hc2, hn, hk⟩ := h
  walk_at "wp"
  refine ⟨⟨by omega, by omega⟩, ?_⟩
  walk_at "wp"
  have hr : (rngT 0 (n : Int).toNat).length = n := by
    rw [rngT_len]
    exact Int.toNat_natCast n
  refine ⟨by rw [hr]; omega, ?_⟩
  refine lcL_of (fun i acc env => ∃ (cs : List Nat) (a' c' : Int) (x : T), env = [boxT a' b c', .int n, x] ∧ acc = (cs.map sgn).map T.str ∧ cs.length = i ∧ (∀ x ∈ cs, 97 ≤ x ∧ x ≤ 122) ∧ 0 ≤ a' ∧ c ≤ c' ∧ c' ≤ c + i) ⟨[], a, c, .gone, rfl, rfl, rfl, (fun x hx => by cases hx), ha, by omega, by omega⟩ ?_ ?_
  · rintro i t acc env N ht ⟨cs, a', c', x, rfl, rfl, hcs, hlow, ha', hc', hc3⟩ hN
    have hi : i < n := by
      have := (List.getElem?_eq_some_iff.mp ht).1
      rwa [hr] at this
    obtain ⟨_, rfl⟩ := rngT_get ht
    walk_at "wp"
    refine ⟨a', b, c', 26, rfl, ha', hb, hb2, by omega, by omega, by decide, by decide, fun r a2 c2 hr0 hr1 ha2 hc4 hc5 => ?_⟩
    walk_at "wp"
    obtain ⟨q, hq⟩ : ∃ q : Nat, r = q := ⟨r.toNat, by omega⟩
    subst hq
    have hq2 : q < 26 := by omega
    refine ⟨by decide, ?_⟩
    obtain ⟨l, hl⟩ : ∃ l, (Str.ofString "abcdefghijklmnopqrstuvwxyz").cps.toList[q]? = some l := ⟨_, List.getElem?_eq_getElem (by rw [lets_len]; exact hq2)⟩
    refine asO_at rfl hl ?_
    walk_at "wp"
    refine hN _ _ ⟨cs ++ [l], a2, c2, _, rfl, ?_, ?_, ?_, ha2, by omega, by omega⟩
    · rw [List.map_append, List.map_append]
      rfl
    · rw [List.length_append, hcs]
      rfl
    · intro x hx
      rcases List.mem_append.mp hx with z | z
      · exact hlow x z
      · rw [List.mem_singleton] at z
        subst z
        exact lets_low hl
  · rintro acc env ⟨cs, a', c', x, rfl, rfl, hcs, hlow, ha', hc', hc3⟩
    rw [hr] at hcs hc3
    walk_at "wp"
    rw [strsT_map]
    walk_at "wp"
    refine ⟨?_, ?_⟩
    · rw [sgn_sum]
      show _ + _ * 0 ≤ _
      omega
    walk_at "wp"
    exact hk _ a' c' (by rw [sgn_join]; exact hcs) (fun x hx => hlow x (by rw [joinE, List.map_map] at hx; obtain ⟨y, hy, hz⟩ := List.mem_flatten.mp hx; obtain ⟨w, hw, rfl⟩ := List.mem_map.mp hy; rw [show x = w by simpa using hz]; exact hw)) ha' hc' hc3
theorem ok_law_word {P : Program} {w : World} {K : PySem.W.Frag} {mg : Str → Option Value} {base : Heap} (T : Tx K mg) : FnG P w K mg base CX0 2 T.a_law_word T.fd_law_word ["box", "size"] (spT K 2 phi_law_word) :=
  def_okG B_law_word T.F_law_word sc_law_word sem_law_word (fun cdv A outer s H E hG hr =>
      (d_last (d_ret (d_join d_str (d_lc (own := [("k", 2)]) (fun j => j == 2) (own_1) rfl sc_law_word.nd (d_iR1 (by rfl) T.b_range (d_cons (d_var (i := 1) (pv 1)) d_nil)) (blkOk_by (own := [("k", 2)]) (N := N_law_word) (sc := defScope s_law_word) (by decide +kernel)) (fun _ _ _ _ _ => (d_gN (i := 2) (by rfl) (pg_name (i := 2) sc_law_word.nd rfl (by first | exact Or.inl rfl | exact Or.inr rfl)))) (fun _ _ _ _ _ => d_tnil) (fun _ _ _ _ _ => (d_ix ix_seq rb_ix d_str (d_callG0 (ok_law_take T) hG (hr.mono (by decide)) (by rfl) T.m_law_take T.F_law_take.kp T.B_law_take .nil (d_lend (i := 0) (pv 0) (d_cons d_int d_nil)))))))))) (fun ts k e hl h => val_law_word ts k e h)
abbrev N_law_names : List Str := ["box", "many", "found", "letters", "k", "word", "turn"]
theorem sc_law_names : FnScope N_law_names ["box", "many"] (defScope s_law_names) := ⟨rfl, rfl, rfl, by decide +kernel, rfl, by decide +kernel, by decide +kernel⟩
theorem low_ok {z : Str} (h : Low z) : PyData.strOk z = true := by
  unfold PyData.strOk
  rw [Array.all_eq_true']
  intro x hx
  have := h x (Array.mem_toList_iff.mpr hx)
  exact decide_eq_true (by omega)
theorem low_app {x y : Str} (hx : Low x) (hy : Low y) : Low (x ++ y) := by
  intro c hc
  have e : (x ++ y).cps.toList = x.cps.toList ++ y.cps.toList := Array.toList_append
  rw [e] at hc
  rcases List.mem_append.mp hc with z | z
  · exact hx c z
  · exact hy c z
theorem low_sgn {l : Nat} (h : 97 ≤ l ∧ l ≤ 122) : Low ⟨#[l]⟩ := fun c hc => by
  have e : c = l := by simpa using hc
  rw [e]
  exact h
theorem low_cut {z : Str} (h : Low z) (lo hi : Option Int) : Low (cutS z lo hi) := fun c hc => by
  have hc : c ∈ (z.cps.toList.drop (HT.sIx z.length 0 lo)).take (HT.sIx z.length z.length hi - HT.sIx z.length 0 lo) := hc
  exact h c (List.mem_of_mem_drop (List.mem_of_mem_take hc))
theorem cut1_len (z : Str) : (cutS z none (some 1)).length ≤ 1 := by
  have e : (cutS z none (some 1)).length = ((z.cps.toList.drop (HT.sIx z.length 0 none)).take (HT.sIx z.length z.length (some ((1 : Nat) : Int)) - HT.sIx z.length 0 none)).length := by
    show Array.size _ = _
    rw [← Array.length_toList]
    rfl
  rw [e, HT.sIx_none, HT.sIx_nat, List.length_take]
  omega
def Wds (zs : List Str) : Prop := ∀ z ∈ zs, Low z ∧ z.length ≤ 6
def phi_law_names : FT := fun ts k _ => ∃ (a b c : Int) (n : Nat), ts = [boxT a b c, .int n] ∧ 0 ≤ a ∧ 0 ≤ b ∧ b < 2147483647 ∧ 0 ≤ c ∧ c ≤ 999999000 ∧ n ≤ 26 ∧
  ∀ (zs : List Str) a' c', zs.length = n → Wds zs → 0 ≤ a' → c ≤ c' → c' ≤ c + 8 * n → k (.lst (zs.map T.str)) [boxT a' b c', .int n]
def sem_law_names : SS :=
    (sSeq (sPar2 2 3 (sCons (sLst sNil) (sCons (sC (.str "abcdefghijklmnopqrstuvwxyz")) sNil)))
    (sSeq (sFor (sIR1 (sCons (sVar 1) sNil)) (gN 4) (sSeq (sAsg (sFrz (sCall0 2 phi_law_word [] (sLend 0 (sCons (sBin fAdd (sC (.int 1)) (sCall0 2 phi_law_take [] (sLend 0 (sCons (sC (.int 6)) sNil)))) sNil)))) (gN 5))
    (sSeq (sFor (sIR1 (sCons (sBin fAdd (sRd (sCB (fc1 fLen) (sCons (sVar 2) sNil))) (sC (.int 1))) sNil)) (gN 6) (sIfS (sRdB (sTest (sBin fInX (sVar 5) (sVar 2)))) (sAsg (sFrz (sBin fAdd (sBin fAdd (sBin fIx (sVar 3) (sVar 6)) (sBin fIx (sVar 3) (sVar 4))) (sSl fSl (sVar 5) sNoPart (sPart (sC (.int 1)))))) (gN 5)) sSkip))
    (sDrop (sMeth 2 fmAppend (sCons (sVar 5) sNil))))))
    (sRet (sMv 2))))
abbrev B_law_names : Nat → Bool := (fun j => j == 2 || j == 3 || j == 4 || j == 5 || j == 6)
theorem val_law_names (ts k e) (h : phi_law_names ts k e) : sem_law_names (endP B_law_names ts k fun _ _ => False) (ts ++ [.gone, .gone, .gone, .gone, .gone]) := by
  obtain ⟨a, b, c, n, rfl, ha, hb, hb2, hc, hc2, hn, hk⟩ := h
  walk_at "wp"
  refine ⟨⟨by omega, by omega⟩, ?_⟩
  refine forL_of (fun i env => ∃ (zs : List Str) (a' c' : Int) (t4 t5 t6 : T), env = [boxT a' b c', .int n, .lst (zs.map T.str), .str "abcdefghijklmnopqrstuvwxyz", t4, t5, t6] ∧ zs.length = i ∧ Wds zs ∧ 0 ≤ a' ∧ c ≤ c' ∧ c' ≤ c + 8 * i) ⟨[], a, c, _, _, _, rfl, rfl, (fun z hz => by cases hz), ha, by omega, by omega⟩ ?_ ?_
  · rintro i t env N ht ⟨zs, a', c', t4, t5, t6, rfl, hzl, hw, ha', hc', hc3⟩ hN
    obtain ⟨hi, rfl⟩ := rngT_get ht
    have hi : i < n := by omega
    walk_at "wp"
    refine ⟨a', b, c', 6, rfl, ha', hb, hb2, by omega, by omega, by omega, by omega, fun r1 a1 c1 r1a r1b a1h c1a c1b => ?_⟩
    walk_at "wp"
    have e1 : (1 + r1) = ((r1.toNat + 1 : Nat) : Int) := by omega
    refine ⟨a1, b, c1, r1.toNat + 1, ?_, a1h, hb, hb2, by omega, by omega, by omega, fun z a2 c2 hz hlow a2h c2a c2b => ?_⟩
    · show [boxT a1 b c1, T.int (1 + r1)] = _
      rw [e1]
    walk_at "wp"
    have hfz : (frzL (zs.map T.str)).length = i := by rw [frzL_map, List.length_map, List.length_map, hzl]
    refine ⟨⟨by omega, by omega⟩, ?_⟩
    refine forL_of (fun j env => ∃ (w : Str) (t6 : T), env = [boxT a2 b c2, .int n, .lst (zs.map T.str), .str "abcdefghijklmnopqrstuvwxyz", .int (0 + (i : Int)), .str w, t6] ∧ Low w ∧ w.length ≤ 6) ⟨z, _, rfl, hlow, by omega⟩ ?_ ?_
    · rintro j t env N' ht' ⟨w, t6, rfl, hwl, hw6⟩ hN'
      obtain ⟨hj, rfl⟩ := rngT_get ht'
      walk_at "wp"
      refine ⟨.str (low_ok hwl), ?_, ?_⟩
      · rw [frzL_of (g := fun z : Str => D.fl (.str z)) fun _ => rfl]
        refine (Sh.lst (n := 0) fun d hd => ?_).mono (by decide)
        obtain ⟨y, hy, rfl⟩ := List.mem_map.mp hd
        exact .str (low_ok (hw y hy).1)
      refine wh_of (fun h0 => ?_) (fun h0 => ?_)
      · walk_at "wp"
        refine ⟨by decide, ?_⟩
        have hj : j < 26 := by
          rw [hfz] at hj
          omega
        obtain ⟨l1, hl1⟩ : ∃ l, (Str.ofString "abcdefghijklmnopqrstuvwxyz").cps.toList[j]? = some l := ⟨_, List.getElem?_eq_getElem (by rw [lets_len]; exact hj)⟩
        obtain ⟨l2, hl2⟩ : ∃ l, (Str.ofString "abcdefghijklmnopqrstuvwxyz").cps.toList[i]? = some l := ⟨_, List.getElem?_eq_getElem (by rw [lets_len]; omega)⟩
        refine asO_at (n := j) (Int.zero_add _) hl1 ?_
        walk_at "wp"
        refine ⟨by decide, ?_⟩
        refine asO_at (n := i) (Int.zero_add _) hl2 ?_
        walk_at "wp"
        refine ⟨line2 (Nat.le_refl 1) (Nat.le_refl 1) (by decide), ?_⟩
        walk_at "wp"
        refine ⟨Nat.le_trans (show w.length ≤ 1000 by omega) (by decide), ?_⟩
        walk_at "wp"
        refine ⟨line2 (len_app (Nat.le_refl 1) (Nat.le_refl 1)) (cut1_len w) (by decide), ?_⟩
        walk_at "wp"
        exact hN' _ ⟨_, _, rfl, low_app (low_app (low_sgn (lets_low hl1)) (low_sgn (lets_low hl2))) (low_cut hwl _ _), Nat.le_trans (len_app (len_app (Nat.le_refl 1) (Nat.le_refl 1)) (cut1_len w)) (by decide)⟩
      · walk_at "wp"
        exact hN' _ ⟨w, _, rfl, hwl, hw6⟩
    · rintro env ⟨w, t6, rfl, hwl, hw6⟩
      walk_at "wp"
      refine ⟨by rw [List.length_map]; omega, ?_⟩
      walk_at "wp"
      refine hN _ ⟨zs ++ [w], a2, c2, .int (0 + (i : Int)), .str w, t6, ?_, ?_, ?_, a2h, by omega, by omega⟩
      · rw [List.map_append]
        rfl
      · rw [List.length_append, hzl]
        rfl
      · intro y hy
        rcases List.mem_append.mp hy with q | q
        · exact hw y q
        · rw [List.mem_singleton] at q
          subst q
          exact ⟨hwl, hw6⟩
  · rintro env ⟨zs, a', c', t4, t5, t6, rfl, hzl, hw, ha', hc', hc3⟩
    have e2 : (rngT 0 (n : Int).toNat).length = n := by rw [rngT_len]; omega
    rw [e2] at hzl hc3
    walk_at "wp"
    exact hk zs a' c' hzl hw ha' hc' hc3
theorem ok_law_names {P : Program} {w : World} {K : PySem.W.Frag} {mg : Str → Option Value} {base : Heap} (T : Tx K mg) : FnG P w K mg base CX0 3 T.a_law_names T.fd_law_names ["box", "many"] (spT K 2 phi_law_names) :=
  def_okG B_law_names T.F_law_names sc_law_names sem_law_names (fun cdv A outer s H E hG hr =>
      (d_seq (d_par2 (i := 2) (j := 3) (by rfl) (by rfl) rfl sc_law_names.nd rfl rfl (by decide) rfl rfl (d_cons (d_lst d_nil) (d_cons d_str d_nil)))
      (d_seq (d_for PassesOwn.never rfl (d_iR1 (by rfl) T.b_range (d_cons (d_var (i := 1) (pv 1)) d_nil)) (d_gN (i := 4) (by rfl) (pg_name (i := 4) sc_law_names.nd rfl (by first | exact Or.inl rfl | exact Or.inr rfl))) (d_seq (d_set (i := 5) (by rfl) sc_law_names.nd rfl (by first | exact Or.inl rfl | exact Or.inr rfl) (d_frz (d_callG0 (ok_law_word T) hG (hr.mono (by decide)) (by rfl) T.m_law_word T.F_law_word.kp T.B_law_word .nil (d_lend (i := 0) (pv 0) (d_cons (d_bin op_addA rb_add d_int (d_callG0 (ok_law_take T) hG (hr.mono (by decide)) (by rfl) T.m_law_take T.F_law_take.kp T.B_law_take .nil (d_lend (i := 0) (pv 0) (d_cons d_int d_nil)))) d_nil)))))
      (d_seq (d_for PassesOwn.never rfl (d_iR1 (by rfl) T.b_range (d_cons (d_bin op_addA rb_add (d_rd (d_callB cr_len rc_len (by rfl) T.b_len (by decide +kernel) (d_cons (d_var (i := 2) (pv 2)) d_nil))) d_int) d_nil)) (d_gN (i := 6) (by rfl) (pg_name (i := 6) sc_law_names.nd rfl (by first | exact Or.inl rfl | exact Or.inr rfl))) (d_last (d_ifS (d_rdB (d_tcmp (op_inX (u65 hr)) rb_inX (d_var (i := 5) (pv 5)) (d_var (i := 2) (pv 2)) (by rfl))) (d_last (d_set (i := 5) (by rfl) sc_law_names.nd rfl (by first | exact Or.inl rfl | exact Or.inr rfl) (d_frz (d_bin op_addA rb_add (d_bin op_addA rb_add (d_ix ix_seq rb_ix (d_var (i := 3) (pv 3)) (d_var (i := 6) (pv 6))) (d_ix ix_seq rb_ix (d_var (i := 3) (pv 3)) (d_var (i := 4) (pv 4)))) (d_sl sl_A rsl (d_var (i := 5) (pv 5)) d_onone (d_osome d_int)))))) d_skip)))
      (d_last (d_drop (d_meth (i := 2) rm_append PySem.F.plainAttrs_list PySem.F.slot_list_append PySem.F.type_list_append mt_append (pv 2) (d_cons (d_var (i := 5) (pv 5)) d_nil)))))))
      (d_last (d_ret (d_mv (i := 2) (pv 2))))))) (fun ts k e hl h => val_law_names ts k e h)
abbrev N_law_pieces : List Str := ["box", "least", "most", "names", "widths", "found", "far", "k", "first", "last", "name"]
theorem sc_law_pieces : FnScope N_law_pieces ["box", "least", "most"] (defScope s_law_pieces) := ⟨rfl, rfl, rfl, by decide +kernel, rfl, by decide +kernel, by decide +kernel⟩
structure PcB (a : Pc) : Prop where
  nm : ∀ z, a.nm = some z → Low z ∧ z.length ≤ 6
  l0 : -1 ≤ a.l
  lr : a.l ≤ a.r
  r1 : a.r ≤ 40
  w0 : 1 ≤ a.w
  w1 : a.w ≤ 3
theorem PcB.ok {a : Pc} (h : PcB a) : PcOk a := by
  have := h.l0; have := h.lr; have := h.r1; have := h.w0; have := h.w1
  exact ⟨fun z hz => ⟨low_ok (h.nm z hz).1, Nat.le_trans (h.nm z hz).2 (by decide)⟩, by unfold Small; omega, by unfold Small; omega, by unfold Small; omega⟩
def OneW (ps : List Pc) : Prop := ∃ f : Str → Int, ∀ p ∈ ps, ∀ z, p.nm = some z → p.w = f z
def phi_law_pieces : FT := fun ts k _ => ∃ (a b c : Int) (n0 n1 : Nat), ts = [boxT a b c, .int n0, .int n1] ∧ 0 ≤ a ∧ 0 ≤ b ∧ b < 2147483647 ∧ 0 ≤ c ∧ c ≤ 999990000 ∧ n0 ≤ n1 ∧ n1 ≤ 200 ∧
  ∀ (ps : List Pc) a' c', n0 ≤ ps.length → ps.length ≤ n1 → (∀ p ∈ ps, PcB p) → OneW ps → 0 ≤ a' → c ≤ c' → c' ≤ c + 1500 → k (.lst (ps.map fun p => .d (pcD p))) [boxT a' b c', .int n0, .int n1]
theorem one_three {r : Int} (h0 : 0 ≤ r) (h1 : r < 2) : ∃ n : Int, atI [T.int 1, T.int 3] r = some (.int n) ∧ 1 ≤ n ∧ n ≤ 3 := by
  rcases (show r = 0 ∨ r = 1 by omega) with z | z
  · subst z; exact ⟨1, rfl, by decide, by decide⟩
  · subst z; exact ⟨3, rfl, by decide, by decide⟩
theorem far_three {r : Int} (h0 : 0 ≤ r) (h1 : r < 3) : ∃ n : Int, atI [T.int 3, T.int 12, T.int 41] r = some (.int n) ∧ 1 ≤ n ∧ n ≤ 41 := by
  rcases (show r = 0 ∨ r = 1 ∨ r = 2 by omega) with z | z | z
  · subst z; exact ⟨3, rfl, by decide, by decide⟩
  · subst z; exact ⟨12, rfl, by decide, by decide⟩
  · subst z; exact ⟨41, rfl, by decide, by decide⟩
def sem_law_pieces : SS :=
    (sSeq (sAsg (sFrz (sCall0 2 phi_law_names [] (sLend 0 (sCons (sBin fAdd (sC (.int 1)) (sCall0 2 phi_law_take [] (sLend 0 (sCons (sC (.int 24)) sNil)))) sNil)))) (gN 3))
    (sSeq (sAsg (sFrz (sCB (fc1 fDictP) (sCons (sLc [10] (sIL (sVar 3)) (gN 10) sYes (sTup (sCons (sVar 10) (sCons (sBin fAdd (sC (.int 1)) (sCall0 2 phi_law_take [] (sLend 0 (sCons (sBin fIx (sLst (sCons (sC (.int 1)) (sCons (sC (.int 3)) sNil))) (sCall0 2 phi_law_take [] (sLend 0 (sCons (sC (.int 2)) sNil)))) sNil)))) sNil)))) sNil))) (gN 4))
    (sSeq (sPar2 5 6 (sCons (sLst sNil) (sCons (sFrz (sBin fIx (sLst (sCons (sC (.int 3)) (sCons (sC (.int 12)) (sCons (sC (.int 41)) sNil)))) (sCall0 2 phi_law_take [] (sLend 0 (sCons (sC (.int 3)) sNil))))) sNil)))
    (sSeq (sFor (sIR1 (sCons (sBin fAdd (sVar 1) (sCall0 2 phi_law_take [] (sLend 0 (sCons (sBin fAdd (sBin fSub (sVar 2) (sVar 1)) (sC (.int 1))) sNil)))) sNil)) (gN 7) (sSeq (sAsg (sFrz (sBin fSub (sCall0 2 phi_law_take [] (sLend 0 (sCons (sC (.int 42)) sNil))) (sC (.int 1)))) (gN 8))
    (sSeq (sAsg (sFrz (sCB (fc2 fMin2) (sCons (sC (.int 40)) (sCons (sBin fAdd (sVar 8) (sCall0 2 phi_law_take [] (sLend 0 (sCons (sVar 6) sNil)))) sNil)))) (gN 9))
    (sSeq (sAsg (sFrz (sBin fIx (sVar 3) (sCall0 2 phi_law_take [] (sLend 0 (sCons (sCB (fc1 fLen) (sCons (sVar 3) sNil)) sNil))))) (gN 10))
    (sIfS (sTest (sBin fEqX (sCall0 2 phi_law_take [] (sLend 0 (sCons (sC (.int 12)) sNil))) (sC (.int 0)))) (sDrop (sMeth 5 fmAppend (sCons (sTup (sCons (sC .non) (sCons (sVar 8) (sCons (sVar 9) (sCons (sBin fAdd (sC (.int 1)) (sCall0 2 phi_law_take [] (sLend 0 (sCons (sC (.int 3)) sNil)))) sNil))))) sNil))) (sDrop (sMeth 5 fmAppend (sCons (sTup (sCons (sVar 10) (sCons (sVar 8) (sCons (sVar 9) (sCons (sDGet (sVar 4) (sVar 10)) sNil))))) sNil))))))))
    (sRet (sMv 5))))))
abbrev B_law_pieces : Nat → Bool := (fun j => j == 3 || j == 4 || j == 5 || j == 6 || j == 7 || j == 8 || j == 9 || j == 10)
theorem val_law_pieces (ts k e) (h : phi_law_pieces ts k e) : sem_law_pieces (endP B_law_pieces ts k fun _ _ => False) (ts ++ [.gone, .gone, .gone, .gone, .gone, .gone, .gone, .gone]) := by
  obtain ⟨a, b, c, n0, n1, rfl, ha, hb, hb2, hc, hc2, hn0, hn1, hk⟩ := h
  walk_at "wp"
  walk_at "tk"
  intro r1 a1 c1 r1a r1b a1h c1a c1b
  walk_at "wp"
  have e1 : (1 + r1) = ((r1.toNat + 1 : Nat) : Int) := by omega
  refine ⟨a1, b, c1, r1.toNat + 1, ?_, a1h, hb, hb2, by omega, by omega, by omega, fun zs a2 c2 hzl hw a2h c2a c2b => ?_⟩
  · show [boxT a1 b c1, T.int (1 + r1)] = _
    rw [e1]
  have c2c : c2 ≤ c + 200 := by omega
  walk_at "wp"
  have ez : (frzL (zs.map T.str)).map T.d = zs.map fun z => T.d (.fl (.str z)) := by
    rw [frzL_of (g := fun z : Str => D.fl (.str z)) fun _ => rfl, List.map_map]
    rfl
  refine ⟨by rw [ez, List.length_map]; omega, ?_⟩
  rw [ez]
  refine lcL_of (fun i acc env => ∃ (l : List (Str × Int)) (a' c' : Int) (t9 : T), acc = l.map (fun p => T.d (.tup [.fl (.str p.1), .int p.2])) ∧ env = [boxT a' b c', .int n0, .int n1, .d (.lst (frzL (zs.map T.str))), .gone, .gone, .gone, .gone, .gone, .gone, t9] ∧ l.map (·.1) = zs.take i ∧ (∀ p ∈ l, 1 ≤ p.2 ∧ p.2 ≤ 3) ∧ 0 ≤ a' ∧ c2 ≤ c' ∧ c' ≤ c2 + 2 * i)
    ⟨[], a2, c2, .gone, rfl, rfl, rfl, (fun p hp => by cases hp), a2h, by omega, by omega⟩ ?_ ?_
  · rintro i t acc env N ht ⟨l, a', c', t9, rfl, rfl, hl, hlw, ha', hc', hc3⟩ hN
    rw [List.getElem?_map] at ht
    obtain ⟨z, hz, rfl⟩ := Option.map_eq_some_iff.mp ht
    have hi : i < zs.length := (List.getElem?_eq_some_iff.mp hz).1
    walk_at "wp"
    walk_at "tk"
    intro r2 a3 c3 r2a r2b a3h c3a c3b
    walk_at "wp"
    obtain ⟨w, ew, w1, w3⟩ := one_three r2a r2b
    refine asO_of ew ?_
    walk_at "wp"
    walk_at "tk"
    intro r3 a4 c4 r3a r3b a4h c4a c4b
    walk_at "wp"
    refine hN _ _ ⟨l ++ [(z, 1 + r3)], a4, c4, _, by rw [List.map_append]; rfl, rfl, ?_, ?_, a4h, by omega, by omega⟩
    · rw [List.map_append, hl, List.take_add_one, hz]
      rfl
    · intro p hp
      rcases List.mem_append.mp hp with q | q
      · exact hlw p q
      · rw [List.mem_singleton] at q
        subst q
        exact ⟨show 1 ≤ 1 + r3 by omega, show 1 + r3 ≤ 3 by omega⟩
  · rintro acc env ⟨l, a', c', t9, rfl, rfl, hl, hlw, ha', hc', hc3⟩
    rw [List.length_map] at hl hc3
    rw [List.take_length] at hl
    have c3c : c' ≤ c + 300 := by omega
    walk_at "wp"
    refine ⟨l.map fun p => ((.inr p.1 : Key), D.int p.2), by rw [List.map_map]; rfl, ?_⟩
    have hget : ∀ z ∈ zs, _ := fun z hz => wdF_get (l := l) (z := z) (by rw [hl]; exact hz)
    generalize hM : mrgG [] (l.map fun p => ((.inr p.1 : Key), D.int p.2)) = M at *
    have eM : (M.map (·.1)).zip (frzL (M.map fun p => T.d p.2)) = M := by
      rw [frzL_of (g := fun p : Key × D => p.2) fun _ => rfl, zip_fs2]
    walk_at "wp"
    walk_at "tk"
    intro r4 a5 c5 r4a r4b a5h c5a c5b
    walk_at "wp"
    obtain ⟨far, ef, f1, f41⟩ := far_three r4a r4b
    refine asO_of ef ?_
    walk_at "wp"
    walk_at "tk"
    intro rn a5 c5 rna rnb a5h c5a c5b
    walk_at "wp"
    obtain ⟨n, en⟩ : ∃ n : Nat, (n0 : Int) + rn = n := ⟨((n0 : Int) + rn).toNat, by omega⟩
    rw [en]
    refine ⟨⟨by omega, by omega⟩, ?_⟩
    refine forL_of (fun i env => ∃ (ps : List Pc) (a' c' : Int) (t6 t7 t8 t9 : T), env = [boxT a' b c', .int n0, .int n1, .d (.lst (frzL (zs.map T.str))), .d (.dK (M.map (·.1)) (frzL (M.map fun p => T.d p.2))), .lst (ps.map fun p => .d (pcD p)), .int far, t6, t7, t8, t9] ∧
      ps.length = i ∧ (∀ p ∈ ps, PcB p) ∧ (∀ p ∈ ps, ∀ z, p.nm = some z → p.w = wdF l z) ∧ 0 ≤ a' ∧ c5 ≤ c' ∧ c' ≤ c5 + 5 * i) ⟨[], a5, c5, _, _, _, _, rfl, rfl, (fun p hp => by cases hp), (fun p hp => by cases hp), a5h, by omega, by omega⟩ ?_ ?_
    · rintro i t env N ht ⟨ps, a', c', t6, t7, t8, t9, rfl, hpl, hpb, hpw, ha', hc', hc3⟩ hN
      obtain ⟨hi, rfl⟩ := rngT_get ht
      have hi : i < n := by omega
      walk_at "wp"
      walk_at "tk"
      intro r5 a6 c6 r5a r5b a6h c6a c6b
      walk_at "wp"
      walk_at "tk"
      intro r6 a7 c7 r6a r6b a7h c7a c7b
      walk_at "wp"
      have ezl : ((frzL (zs.map T.str)).length : Int) = zs.length := by rw [frzL_of (g := fun z : Str => D.fl (.str z)) fun _ => rfl, List.length_map]
      walk_at "tk"
      intro r7 a8 c8 r7a r7b a8h c8a c8b
      walk_at "wp"
      obtain ⟨z, hz⟩ : ∃ z, zs[r7.toNat]? = some z := ⟨_, List.getElem?_eq_getElem (by omega)⟩
      refine asO_at (n := r7.toNat) (x := D.fl (.str z)) (by omega) (by rw [frzL_of (g := fun z : Str => D.fl (.str z)) fun _ => rfl, List.getElem?_map, hz]; rfl) ?_
      walk_at "wp"
      walk_at "tk"
      intro r8 a9 c9 r8a r8b a9h c9a c9b
      walk_at "wp"
      have hmn : ∀ x : Int, (if (r5 - 1 + r6) < 40 then r5 - 1 + r6 else 40) = x → r5 - 1 ≤ x ∧ x ≤ 40 := fun x hx => by split at hx <;> omega
      have hfin : ∀ (p : Pc) (a' c' : Int) (t6 t7 t8 t9 : T), PcB p → (∀ z, p.nm = some z → p.w = wdF l z) → 0 ≤ a' → c5 ≤ c' → c' ≤ c5 + 5 * (i + 1) → N [boxT a' b c', .int n0, .int n1, .d (.lst (frzL (zs.map T.str))), .d (.dK (M.map (·.1)) (frzL (M.map fun p => T.d p.2))), .lst ((ps.map fun p => .d (pcD p)) ++ [.d (pcD p)]), .int far, t6, t7, t8, t9] := by
        intro p a' c' t6 t7 t8 t9 h1 h2 h3 h4 h5
        refine hN _ ⟨ps ++ [p], a', c', t6, t7, t8, t9, by rw [List.map_append]; rfl, by rw [List.length_append, hpl]; rfl, ?_, ?_, h3, h4, by omega⟩
        · intro y hy
          rcases List.mem_append.mp hy with q | q
          · exact hpb y q
          · rw [List.mem_singleton] at q; subst q; exact h1
        · intro y hy
          rcases List.mem_append.mp hy with q | q
          · exact hpw y q
          · rw [List.mem_singleton] at q; subst q; exact h2
      have hle : (ps.map fun p => T.d (pcD p)).length < 1000000 := by rw [List.length_map]; omega
      refine wh_Ei (fun h0 => ?_) (fun h0 => ?_)
      · walk_at "wp"
        walk_at "tk"
        intro r9 a10 c10 r9a r9b a10h c10a c10b
        walk_at "wp"
        refine ⟨hle, ?_⟩
        walk_at "wp"
        obtain ⟨m1, m2⟩ := hmn _ rfl
        refine hfin ⟨none, r5 - 1, _, 1 + r9⟩ _ _ _ _ _ _ ⟨fun z hz => (by cases hz), show -1 ≤ r5 - 1 by omega, m1, m2, show 1 ≤ 1 + r9 by omega, show 1 + r9 ≤ 3 by omega⟩ (fun z hz => by cases hz) a10h (by omega) (by omega)
      · walk_at "wp"
        obtain ⟨hg, p0, hp0, hpw0⟩ := hget z (List.mem_of_getElem? hz)
        refine asO_of (by rw [eM]; exact hg) ?_
        walk_at "wp"
        refine ⟨hle, ?_⟩
        walk_at "wp"
        obtain ⟨m1, m2⟩ := hmn _ rfl
        have hw0 := hlw p0 hp0
        refine hfin ⟨some z, r5 - 1, _, wdF l z⟩ _ _ _ _ _ _ ⟨fun y hy => (by cases hy; exact hw z (List.mem_of_getElem? hz)), show -1 ≤ r5 - 1 by omega, m1, m2, show 1 ≤ wdF l z by omega, show wdF l z ≤ 3 by omega⟩ (fun y hy => (by cases hy; rfl)) a9h (by omega) (by omega)
    · rintro env ⟨ps, a', c', t6, t7, t8, t9, rfl, hpl, hpb, hpw, ha', hc', hc3⟩
      have e2 : (rngT 0 (n : Int).toNat).length = n := by rw [rngT_len]; omega
      rw [e2] at hpl hc3
      walk_at "wp"
      exact hk ps a' c' (by omega) (by omega) hpb ⟨wdF l, hpw⟩ ha' (by omega) (by omega)
theorem ok_law_pieces {P : Program} {w : World} {K : PySem.W.Frag} {mg : Str → Option Value} {base : Heap} (T : Tx K mg) : FnG P w K mg base CX0 4 T.a_law_pieces T.fd_law_pieces ["box", "least", "most"] (spT K 3 phi_law_pieces) :=
  def_okG B_law_pieces T.F_law_pieces sc_law_pieces sem_law_pieces (fun cdv A outer s H E hG hr =>
      (d_seq (d_set (i := 3) (by rfl) sc_law_pieces.nd rfl (by first | exact Or.inl rfl | exact Or.inr rfl) (d_frz (d_callG0 (ok_law_names T) hG (hr.mono (by decide)) (by rfl) T.m_law_names T.F_law_names.kp T.B_law_names .nil (d_lend (i := 0) (pv 0) (d_cons (d_bin op_addA rb_add d_int (d_callG0 (ok_law_take T) hG (hr.mono (by decide)) (by rfl) T.m_law_take T.F_law_take.kp T.B_law_take .nil (d_lend (i := 0) (pv 0) (d_cons d_int d_nil)))) d_nil)))))
      (d_seq (d_set (i := 4) (by rfl) sc_law_pieces.nd rfl (by first | exact Or.inl rfl | exact Or.inr rfl) (d_frz (d_callTy (call_dictP rfl) rc_dictP (by rfl) T.b_dict (by decide +kernel) (d_cons (d_lc (own := [("name", 10)]) (fun j => j == 10) (own_1) rfl sc_law_pieces.nd (d_iL (d_var (i := 3) (pv 3))) (blkOk_by (own := [("name", 10)]) (N := N_law_pieces) (sc := defScope s_law_pieces) (by decide +kernel)) (fun _ _ _ _ _ => (d_gN (i := 10) (by rfl) (pg_name (i := 10) sc_law_pieces.nd rfl (by first | exact Or.inl rfl | exact Or.inr rfl)))) (fun _ _ _ _ _ => d_tnil) (fun _ _ _ _ _ => (d_tup (d_cons (d_var (i := 10) (pv 10)) (d_cons (d_bin op_addA rb_add d_int (d_callG0 (ok_law_take T) hG (hr.mono (by decide)) (by rfl) T.m_law_take T.F_law_take.kp T.B_law_take .nil (d_lend (i := 0) (pv 0) (d_cons (d_ix ix_seq rb_ix (d_lst (d_cons d_int (d_cons d_int d_nil))) (d_callG0 (ok_law_take T) hG (hr.mono (by decide)) (by rfl) T.m_law_take T.F_law_take.kp T.B_law_take .nil (d_lend (i := 0) (pv 0) (d_cons d_int d_nil)))) d_nil)))) d_nil))))) d_nil))))
      (d_seq (d_par2 (i := 5) (j := 6) (by rfl) (by rfl) rfl sc_law_pieces.nd rfl rfl (by decide) rfl rfl (d_cons (d_lst d_nil) (d_cons (d_frz (d_ix ix_seq rb_ix (d_lst (d_cons d_int (d_cons d_int (d_cons d_int d_nil)))) (d_callG0 (ok_law_take T) hG (hr.mono (by decide)) (by rfl) T.m_law_take T.F_law_take.kp T.B_law_take .nil (d_lend (i := 0) (pv 0) (d_cons d_int d_nil))))) d_nil)))
      (d_seq (d_for PassesOwn.never rfl (d_iR1 (by rfl) T.b_range (d_cons (d_bin op_addA rb_add (d_var (i := 1) (pv 1)) (d_callG0 (ok_law_take T) hG (hr.mono (by decide)) (by rfl) T.m_law_take T.F_law_take.kp T.B_law_take .nil (d_lend (i := 0) (pv 0) (d_cons (d_bin op_addA rb_add (d_bin op_sub rb_I0 (d_var (i := 2) (pv 2)) (d_var (i := 1) (pv 1))) d_int) d_nil)))) d_nil)) (d_gN (i := 7) (by rfl) (pg_name (i := 7) sc_law_pieces.nd rfl (by first | exact Or.inl rfl | exact Or.inr rfl))) (d_seq (d_set (i := 8) (by rfl) sc_law_pieces.nd rfl (by first | exact Or.inl rfl | exact Or.inr rfl) (d_frz (d_bin op_sub rb_I0 (d_callG0 (ok_law_take T) hG (hr.mono (by decide)) (by rfl) T.m_law_take T.F_law_take.kp T.B_law_take .nil (d_lend (i := 0) (pv 0) (d_cons d_int d_nil))) d_int)))
      (d_seq (d_set (i := 9) (by rfl) sc_law_pieces.nd rfl (by first | exact Or.inl rfl | exact Or.inr rfl) (d_frz (d_callB (cr_min2 rfl) (rc2 rb_I0) (by rfl) T.b_min (by decide +kernel) (d_cons d_int (d_cons (d_bin op_addA rb_add (d_var (i := 8) (pv 8)) (d_callG0 (ok_law_take T) hG (hr.mono (by decide)) (by rfl) T.m_law_take T.F_law_take.kp T.B_law_take .nil (d_lend (i := 0) (pv 0) (d_cons (d_var (i := 6) (pv 6)) d_nil)))) d_nil)))))
      (d_seq (d_set (i := 10) (by rfl) sc_law_pieces.nd rfl (by first | exact Or.inl rfl | exact Or.inr rfl) (d_frz (d_ix ix_seq rb_ix (d_var (i := 3) (pv 3)) (d_callG0 (ok_law_take T) hG (hr.mono (by decide)) (by rfl) T.m_law_take T.F_law_take.kp T.B_law_take .nil (d_lend (i := 0) (pv 0) (d_cons (d_callB cr_len rc_len (by rfl) T.b_len (by decide +kernel) (d_cons (d_var (i := 3) (pv 3)) d_nil)) d_nil))))))
      (d_last (d_ifS (d_tcmp (op_eqX hr.units) rb_eqX (d_callG0 (ok_law_take T) hG (hr.mono (by decide)) (by rfl) T.m_law_take T.F_law_take.kp T.B_law_take .nil (d_lend (i := 0) (pv 0) (d_cons d_int d_nil))) d_int (nomark _)) (d_last (d_drop (d_meth (i := 5) rm_append PySem.F.plainAttrs_list PySem.F.slot_list_append PySem.F.type_list_append mt_append (pv 5) (d_cons (d_tup (d_cons d_non (d_cons (d_var (i := 8) (pv 8)) (d_cons (d_var (i := 9) (pv 9)) (d_cons (d_bin op_addA rb_add d_int (d_callG0 (ok_law_take T) hG (hr.mono (by decide)) (by rfl) T.m_law_take T.F_law_take.kp T.B_law_take .nil (d_lend (i := 0) (pv 0) (d_cons d_int d_nil)))) d_nil))))) d_nil)))) (d_last (d_drop (d_meth (i := 5) rm_append PySem.F.plainAttrs_list PySem.F.slot_list_append PySem.F.type_list_append mt_append (pv 5) (d_cons (d_tup (d_cons (d_var (i := 10) (pv 10)) (d_cons (d_var (i := 8) (pv 8)) (d_cons (d_var (i := 9) (pv 9)) (d_cons (d_dget (u1 hr) (d_var (i := 4) (pv 4)) (d_var (i := 10) (pv 10))) d_nil))))) d_nil))))))))))
      (d_last (d_ret (d_mv (i := 5) (pv 5))))))))) (fun ts k e hl h => val_law_pieces ts k e h)
abbrev N_law_levels_due : List Str := ["pieces", "levels", "tracks", "begin", "level", "width", "some", "ends", "l", "r", "k", "free", "at", "one", "end"]
theorem sc_law_levels_due : FnScope N_law_levels_due ["pieces", "levels"] (defScope s_law_levels_due) := ⟨rfl, rfl, rfl, by decide +kernel, rfl, by decide +kernel, by decide +kernel⟩
def phi_law_levels_due : FT := fun ts k _ => ∃ (ps : List Pc) (lv : List Int), ts = [pcsT ps, .d (intsD lv)] ∧ (∀ a ∈ ps, a.l ≤ a.r) ∧ (∀ a ∈ ps, 1 ≤ a.w ∧ a.w ≤ 3) ∧ lv.length = ps.length ∧ ps.length ≤ 1000 ∧ (∀ x ∈ lv, 0 ≤ x ∧ x ≤ 10000) ∧ k (.lst ((byLv ps lv).map T.int)) [pcsT ps, .d (intsD lv)]
def sem_law_levels_due : SS :=
    (sSeq (sPar2 2 3 (sCons (sBin fMulX (sLst (sCons (sC (.int 0)) sNil)) (sCB (fc1 fLen) (sCons (sVar 0) sNil))) (sCons (sC (.int 0)) sNil)))
    (sSeq (sFor (sIL (sSortSet (sVar 1))) (gN 4) (sFor (sIU (sTup (sCons (sC (.int 3)) (sCons (sC (.int 2)) (sCons (sC (.int 1)) sNil))))) (gN 5) (sSeq (sFzS 6 (sAsg (sLc [10, 13] (sIE (sCons (sVar 0) sNil)) (gT 2 (gCons (gN 10) (gCons (gN 13) gNil))) (sAnd (sTest (sBin fEqX (sBin fIx (sVar 1) (sVar 10)) (sVar 4))) (sTest (sBin fEqX (sBin fIx (sVar 13) (sC (.int 3))) (sVar 5)))) (sTup (sCons (sBin fIx (sVar 13) (sC (.int 1))) (sCons (sBin fIx (sVar 13) (sC (.int 2))) (sCons (sVar 10) sNil))))) (gN 6)))
    (sSeq (sAsg (sFrz (sLst sNil)) (gN 7))
    (sSeq (sFor (sIL (sCB (fc1 fSorted) (sCons (sVar 6) sNil))) (gT 3 (gCons (gN 8) (gCons (gN 9) (gCons (gN 10) gNil)))) (sSeq (sFzS 11 (sAsg (sLc [12, 14] (sIE (sCons (sVar 7) sNil)) (gT 2 (gCons (gN 12) (gCons (gN 14) gNil))) (sTest (sBin fLt (sVar 14) (sVar 8))) (sVar 12)) (gN 11)))
    (sSeq (sAsg (sFrz (sIf (sTest (sBin fNeX (sVar 11) (sLst sNil))) (sBin fIx (sVar 11) (sC (.int 0))) (sCB (fc1 fLen) (sCons (sVar 7) sNil)))) (gN 12))
    (sSeq (sAsg (sFrz (sBin fAdd (sBin fAdd (sSl fSl (sVar 7) sNoPart (sPart (sVar 12))) (sLst (sCons (sVar 9) sNil))) (sSl fSl (sVar 7) (sPart (sBin fAdd (sVar 12) (sC (.int 1)))) sNoPart))) (gN 7))
    (sAsg (sBin fAdd (sVar 3) (sBin fMulX (sVar 12) (sVar 5))) (gSetL 2 (sVar 10)))))))
    (sAsg (sFrz (sBin fAdd (sVar 3) (sBin fMulX (sCB (fc1 fLen) (sCons (sVar 7) sNil)) (sVar 5)))) (gN 3)))))))
    (sRet (sMv 2))))
abbrev B_law_levels_due : Nat → Bool := (fun j => j == 2 || j == 3 || j == 4 || j == 5 || j == 6 || j == 7 || j == 8 || j == 9 || j == 10 || j == 11 || j == 12)
theorem val_law_levels_due (ts k e) (h : phi_law_levels_due ts k e) : sem_law_levels_due (endP B_law_levels_due ts k fun _ _ => False) (ts ++ [.gone, .gone, .gone, .gone, .gone, .gone, .gone, .gone, .gone, .gone, .gone, .gone, .gone]) := by
  obtain ⟨ps, lv, rfl, hlr, hw, hlv, hl, h0, hk⟩ := h
  have hpl : (ps.map pcD).length = ps.length := List.length_map ..
  walk_at "wp"
  refine ⟨⟨by show 1 * _ ≤ _; omega, by omega, by omega⟩, ?_⟩
  walk_at "wp"
  refine ⟨lv.map fun i => (.inl i : Key), by rw [List.map_map, List.map_map]; rfl, by rw [List.length_map]; omega, al_ints lv, fun zs nd hm => ?_⟩
  obtain ⟨ys, ey, hy, hmy⟩ := sorted_ints nd hm
  rw [ey]
  have hby : byLv ps lv = (levF ps lv ys).2 := by
    unfold byLv
    rw [levF_rise (fun x hx => (h0 x hx).1) hy hmy]
  rw [hby] at hk
  have e0 : repL ((ps.map pcD).length : Int).toNat [T.int 0] = (List.replicate ps.length (0 : Int)).map T.int := by rw [repL_one, List.map_replicate, hpl]; rfl
  walk_at "wp"
  refine forL_of (fun i env => ∃ (x4 x5 x6 x7 x8 x9 x10 x11 x12 x13 x14 : T), env = [pcsT ps, .d (intsD lv), .lst ((levF ps lv (ys.take i)).2.map T.int), .int (levF ps lv (ys.take i)).1, x4, x5, x6, x7, x8, x9, x10, x11, x12, x13, x14]) ⟨_, _, _, _, _, _, _, _, _, _, _, by rw [e0]; rfl⟩ ?_ ?_
  · rintro i t env N ht ⟨x4, x5, x6, x7, x8, x9, x10, x11, x12, x13, x14, rfl⟩ hN
    rw [List.getElem?_map, List.getElem?_map] at ht
    obtain ⟨u', hu', rfl⟩ := Option.map_eq_some_iff.mp ht
    obtain ⟨L, hL, rfl⟩ := Option.map_eq_some_iff.mp hu'
    have hst := levF_take (ps := ps) (lv := lv) hL
    have hl0 : (levF ps lv (ys.take i)).2.length = ps.length := levF_len _ _ (List.length_replicate ..)
    have hLb := h0 L ((hmy L).mp (List.mem_of_getElem? hL))
    rw [hst] at hN
    generalize hB : levF ps lv (ys.take i) = st0 at *
    walk_at "wp"
    refine forL_of (fun j env => ∃ (x5 x6 x7 x8 x9 x10 x11 x12 x13 x14 : T), env = [pcsT ps, .d (intsD lv), .lst ((stW ps lv L st0 j).2.map T.int), .int (stW ps lv L st0 j).1, .int L, x5, x6, x7, x8, x9, x10, x11, x12, x13, x14]) ⟨_, _, _, _, _, _, _, _, _, _, rfl⟩ ?_ ?_
    · rintro j t env N' ht' ⟨x5, x6, x7, x8, x9, x10, x11, x12, x13, x14, rfl⟩ hN'
      have hjt : j < 3 ∧ t = .int (3 + (j : Int) * -1) := by
        match j, ht' with
        | 0, e => exact ⟨by decide, (Option.some.inj e).symm⟩
        | 1, e => exact ⟨by decide, (Option.some.inj e).symm⟩
        | 2, e => exact ⟨by decide, (Option.some.inj e).symm⟩
        | n + 3, e => cases e
      obtain ⟨hj, rfl⟩ := hjt
      have I := ord_ok hlr lv L (3 + (j : Int) * -1)
      have hp := sortTri_pair (selF ps lv L (3 + (j : Int) * -1))
      have hlt := lay_items_lt I
      have hnd := lay_nd I
      have hl1 := stW_len (lv := lv) (L := L) hl0 (j := j) (by omega)
      rw [stW_step hj] at hN'
      have hS : stepW ps lv L (stW ps lv L st0 j) (3 + (j : Int) * -1) = ((stW ps lv L st0 j).1 + (layF (ordF ps lv L (3 + (j : Int) * -1))).1.length * (3 + (j : Int) * -1), setsF (stW ps lv L st0 j).1 (3 + (j : Int) * -1) (layF (ordF ps lv L (3 + (j : Int) * -1))).2 (stW ps lv L st0 j).2) := rfl
      rw [hS] at hN'
      have hw1 : 1 ≤ 3 + (j : Int) * -1 ∧ 3 + (j : Int) * -1 ≤ 3 := by omega
      generalize hw0 : 3 + (j : Int) * -1 = w at *
      generalize hs1 : stW ps lv L st0 j = s1 at *
      have hen : (enumT ((ps.map pcD).map T.d)).length = ps.length := by rw [enumT_len, List.length_map, List.length_map]
      walk_at "wp"
      refine ⟨by omega, ?_⟩
      refine lcL_of (fun m acc env => ∃ (y10 y13 : T), acc = (selF (ps.take m) (lv.take m) L w).map (fun x => .d (triD x)) ∧ env = [pcsT ps, .d (intsD lv), .lst (s1.2.map T.int), .int s1.1, .int L, .int w, x6, x7, x8, x9, y10, x11, x12, y13, x14]) ⟨_, _, rfl, rfl⟩ ?_ ?_
      · rintro m t acc env N2 ht2 ⟨y10, y13, rfl, rfl⟩ hN2
        obtain ⟨u, hu, rfl⟩ := enumT_get ht2
        rw [List.getElem?_map, List.getElem?_map] at hu
        obtain ⟨u', hu', rfl⟩ := Option.map_eq_some_iff.mp hu
        obtain ⟨a, ha, rfl⟩ := Option.map_eq_some_iff.mp hu'
        have hm' : m < ps.length := (List.getElem?_eq_some_iff.mp ha).1
        obtain ⟨x, hx⟩ : ∃ x, lv[m]? = some x := ⟨_, List.getElem?_eq_getElem (by omega)⟩
        have est := sel_take_succ (L := L) (w := w) ha hx
        walk_at "wp"
        refine asO_at (n := m) rfl (get_map hx) ?_
        walk_at "wp"
        refine wh_Ei (fun h1 => ?_) (fun h1 => ?_)
        · walk_at "wp"
          refine wh_Ei (fun h2 => ?_) (fun h2 => ?_)
          · walk_at "wp"
            refine hN2 _ _ ⟨_, _, ?_, rfl⟩
            rw [est, if_pos ⟨h1, h2⟩, List.map_append]
            rfl
          · walk_at "wp"
            refine hN2 _ _ ⟨_, _, ?_, rfl⟩
            rw [est, if_neg fun z => h2 z.2, List.append_nil]
        · walk_at "wp"
          refine hN2 _ _ ⟨_, _, ?_, rfl⟩
          rw [est, if_neg fun z => h1 z.1, List.append_nil]
      rintro acc env ⟨y10, y13, rfl, rfl⟩
      rw [hen, List.take_length, ← hlv, List.take_length]
      have efT : frzL ((selF ps lv L w).map fun x => T.d (triD x)) = (selF ps lv L w).map triD := frzL_of (fun _ => rfl) _
      have hsl := selF_len (L := L) (w := w) hlv
      walk_at "wp"
      rw [efT]
      have emm : ((selF ps lv L w).map triD).map T.d = (selF ps lv L w).map fun x => T.d (triD x) := by rw [List.map_map]; rfl
      rw [emm]
      refine ⟨by rw [efT]; exact Srt_tri (by omega), ?_⟩
      rw [sortT_tri]
      have hO : sortTri (selF ps lv L w) = ordF ps lv L w := rfl
      rw [hO] at hp ⊢
      have hxo : ∀ x ∈ ordF ps lv L w, x.1 ≤ x.2.1 ∧ x.2.2 < ps.length := fun x hx => by
        obtain ⟨a, h1, _, _, h4, h5⟩ := mem_sel.mp (mem_ord.mp hx)
        rw [h4, h5]
        exact ⟨hlr a (List.mem_of_getElem? h1), (List.getElem?_eq_some_iff.mp h1).1⟩
      have hol := ord_len (L := L) (w := w) hlv
      generalize hoo : ordF ps lv L w = o at *
      walk_at "wp"
      refine forL_of (fun q env => ∃ (x8 x9 x10 x11 x12 x13 x14 : T), env = [pcsT ps, .d (intsD lv), .lst ((setsF s1.1 w (layF (o.take q)).2 s1.2).map T.int), .int s1.1, .int L, .int w, .d (.lst ((selF ps lv L w).map triD)), .d (.lst ((layF (o.take q)).1.map D.int)), x8, x9, x10, x11, x12, x13, x14]) ⟨x8, x9, x10, x11, x12, x13, x14, by
        show [_, _, _, _, _, _, T.d (.lst (frzL ((selF ps lv L w).map fun x => T.d (triD x)))), _, _, _, _, _, _, _, _] = _
        rw [efT]
        rfl⟩ ?_ ?_
      · rintro q t env N2 ht2 ⟨x8, x9, x10, x11, x12, x13, x14, rfl⟩ hN2
        rw [List.getElem?_map] at ht2
        obtain ⟨x, hxi, rfl⟩ := Option.map_eq_some_iff.mp ht2
        have hqi : q < o.length := (List.getElem?_eq_some_iff.mp hxi).1
        have I2 := layF_inv hp (fun x hx => (hxo x hx).1) q (by omega)
        have hst2 : layF (o.take (q + 1)) = layS (layF (o.take q)) x := by
          rw [List.take_add_one, hxi]
          exact layF_snoc _ _
        have hle := lay_le I2
        rw [List.length_take] at hle
        rw [hst2] at hN2
        generalize hZ : layF (o.take q) = Z at *
        have hse := slotE_le (ends := Z.1) (l := x.1)
        have henE : (enumT ((Z.1.map D.int).map T.d)).length = Z.1.length := by rw [enumT_len, List.length_map, List.length_map]
        walk_at "wp"
        refine ⟨by omega, ?_⟩
        refine lcL_of (fun m acc env => ∃ (fs : List Nat) (y12 y14 : T), acc = fs.map natT ∧ env = [pcsT ps, .d (intsD lv), .lst ((setsF s1.1 w Z.2 s1.2).map T.int), .int s1.1, .int L, .int w, .d (.lst ((selF ps lv L w).map triD)), .d (.lst (Z.1.map D.int)), .int x.1, .int x.2.1, .int x.2.2, x11, y12, x13, y14] ∧
          ((fs = [] ∧ ∀ (j : Nat) (e : Int), j < m → Z.1[j]? = some e → x.1 ≤ e) ∨ ∃ r, fs = slotE Z.1 x.1 :: r ∧ slotE Z.1 x.1 < m)) ⟨[], _, _, rfl, rfl, .inl ⟨rfl, fun j e h => absurd h (Nat.not_lt_zero _)⟩⟩ ?_ ?_
        · rintro m t acc env N3 ht3 ⟨fs, y12, y14, rfl, rfl, hfs⟩ hN3
          obtain ⟨u, hu, rfl⟩ := enumT_get ht3
          rw [List.getElem?_map, List.getElem?_map] at hu
          obtain ⟨u', hu', rfl⟩ := Option.map_eq_some_iff.mp hu
          obtain ⟨e, he, rfl⟩ := Option.map_eq_some_iff.mp hu'
          have hme : m < Z.1.length := (List.getElem?_eq_some_iff.mp he).1
          walk_at "wp"
          refine wh_d (fun h1 => ?_) (fun h1 => ?_)
          · walk_at "wp"
            refine hN3 _ _ ⟨fs ++ [m], _, _, by rw [List.map_append]; rfl, rfl, .inr ?_⟩
            rcases hfs with ⟨rfl, h2⟩ | ⟨r, rfl, h2⟩
            · have : slotE Z.1 x.1 = m := slotE_of h2 (by omega) fun e' h3 => by rw [he] at h3; cases h3; exact h1
              exact ⟨[], by rw [this]; rfl, by omega⟩
            · exact ⟨r ++ [m], rfl, by omega⟩
          · walk_at "wp"
            refine hN3 _ _ ⟨fs, _, _, rfl, rfl, ?_⟩
            rcases hfs with ⟨rfl, h2⟩ | ⟨r, rfl, h2⟩
            · refine .inl ⟨rfl, fun j e' h3 h4 => ?_⟩
              rcases (show j < m ∨ j = m by omega) with z | z
              · exact h2 j e' z h4
              · subst z
                rw [he] at h4
                cases h4
                omega
            · exact .inr ⟨r, rfl, by omega⟩
        rintro acc env ⟨fs, y12, y14, rfl, rfl, hfs⟩
        rw [henE] at hfs
        have efF : frzL (fs.map natT) = fs.map fun n => D.int ((n : Nat) : Int) := frzL_of (fun _ => rfl) _
        have hsh : Sh 64 (.lst (fs.map fun n => D.int ((n : Nat) : Int))) := (Sh.lst (n := 0) fun d hd => by
          obtain ⟨n, _, rfl⟩ := List.mem_map.mp hd
          exact .int).mono (by decide)
        walk_at "wp"
        refine ⟨by show Sh 64 (.lst (frzL (fs.map natT))); rw [efF]; exact hsh, (Sh.lst (n := 0) fun d hd => by cases hd).mono (by decide), ?_⟩
        refine wh_join (fun t env => t = .int (slotE Z.1 x.1 : Nat) ∧ env = [pcsT ps, .d (intsD lv), .lst ((setsF s1.1 w Z.2 s1.2).map T.int), .int s1.1, .int L, .int w, .d (.lst ((selF ps lv L w).map triD)), .d (.lst (Z.1.map D.int)), .int x.1, .int x.2.1, .int x.2.2, .d (.lst (frzL (fs.map natT))), x12, x13, x14]) (fun hb Q hQ => ?_) (fun hb Q hQ => ?_) ?_
        · rcases hfs with ⟨rfl, h2⟩ | ⟨r, rfl, h2⟩
          · have hb : (!eqD (.lst []) (.lst [])) = true := hb
            rw [eqD_self] at hb
            cases hb
          · walk_at "wp"
            refine asO_at (n := 0) rfl rfl ?_
            walk_at "wp"
            exact hQ _ _ ⟨rfl, rfl⟩
        · rcases hfs with ⟨rfl, h2⟩ | ⟨r, rfl, h2⟩
          · walk_at "wp"
            refine hQ _ _ ⟨?_, rfl⟩
            have h3 : slotE Z.1 x.1 = Z.1.length := slotE_of (fun j e _ h => h2 j e (List.getElem?_eq_some_iff.mp h).1 h) (Nat.le_refl _) fun e h => by rw [List.getElem?_eq_none (Nat.le_refl _)] at h; cases h
            rw [h3]
            show T.int ((Z.1.map D.int).length : Nat) = _
            rw [List.length_map]
          · have hb : (!eqD (.lst (D.int (slotE Z.1 x.1 : Nat) :: frzL (r.map natT))) (.lst [])) = false := hb
            rw [eqD_cn] at hb
            cases hb
        rintro t env ⟨rfl, rfl⟩
        walk_at "wp"
        have eI : (Z.1.map D.int).map T.d = Z.1.map T.int := by rw [List.map_map]; rfl
        have hZl : Z.1.length ≤ 1000 := by omega
        rw [cutG_to, eI]
        refine ⟨by rw [List.length_take, List.length_map]; show _ + 1 ≤ _; omega, ?_⟩
        walk_at "wp"
        have e2 : ((slotE Z.1 x.1 : Nat) : Int) + 1 = ((slotE Z.1 x.1 + 1 : Nat) : Int) := rfl
        rw [e2, cutG_from, eI]
        refine ⟨by rw [List.length_append, List.length_take, List.length_drop, List.length_map]; show _ + 1 + _ ≤ _; omega, ?_⟩
        have e3 : (Z.1.map T.int).take (slotE Z.1 x.1) ++ [T.d (.fl (.int x.2.1))] ++ (Z.1.map T.int).drop (slotE Z.1 x.1 + 1) = (layS Z x).1.map T.int := by
          show _ = (putE Z.1 (slotE Z.1 x.1) x.2.1).map T.int
          rw [← putE_cut hse, List.map_append, List.map_append, List.map_take, List.map_drop]
          rfl
        rw [e3]
        walk_at "wp"
        refine ⟨cmul_r (by omega) (by omega), ?_⟩
        walk_at "wp"
        refine asN_of (i := x.2.2) (ixN_at (by rw [List.length_map, setsF_len, hl1]; exact (hxo x (List.mem_of_getElem? hxi)).2) rfl) ?_
        walk_at "wp"
        refine hN2 _ ⟨.int x.1, .int x.2.1, .int x.2.2, .d (.lst (frzL (fs.map natT))), .int (slotE Z.1 x.1 : Nat), x13, x14, ?_⟩
        have e4 : (layS Z x).2 = Z.2 ++ [(x, slotE Z.1 x.1)] := rfl
        rw [e4, setsF_snoc, List.map_set]
        show [_, _, _, _, _, _, _, T.d (.lst (frzL ((layS Z x).1.map T.int))), _, _, _, _, _, _, _] = _
        rw [frzL_of (g := D.int) fun _ => rfl]
        rfl
      · rintro env ⟨x8, x9, x10, x11, x12, x13, x14, rfl⟩
        rw [List.length_map, List.take_length]
        walk_at "wp"
        have hZl := lay_le I
        refine ⟨cmul_r (by omega) (by omega), ?_⟩
        walk_at "wp"
        refine hN' _ ⟨.int w, .d (.lst ((selF ps lv L w).map triD)), .d (.lst ((layF o).1.map D.int)), x8, x9, x10, x11, x12, x13, x14, ?_⟩
        show [_, _, _, T.int (s1.1 + (((layF o).1.map D.int).length : Int) * w), _, _, _, _, _, _, _, _, _, _, _] = _
        rw [List.length_map]
    · rintro env ⟨x5, x6, x7, x8, x9, x10, x11, x12, x13, x14, rfl⟩
      walk_at "wp"
      exact hN _ ⟨_, _, _, _, _, _, _, _, _, _, _, rfl⟩
  · rintro env ⟨x4, x5, x6, x7, x8, x9, x10, x11, x12, x13, x14, rfl⟩
    rw [List.length_map, List.length_map, List.take_length]
    walk_at "wp"
    exact hk
theorem ok_law_levels_due {P : Program} {w : World} {K : PySem.W.Frag} {mg : Str → Option Value} {base : Heap} (T : Tx K mg) : FnG P w K mg base CX0 1 T.a_law_levels_due T.fd_law_levels_due ["pieces", "levels"] (spT K 2 phi_law_levels_due) :=
  def_okG B_law_levels_due T.F_law_levels_due sc_law_levels_due sem_law_levels_due (fun cdv A outer s H E hG hr =>
      (d_seq (d_par2 (i := 2) (j := 3) (by rfl) (by rfl) rfl sc_law_levels_due.nd rfl rfl (by decide) rfl rfl (d_cons (d_bin op_mulY rb_mulX (d_lst (d_cons d_int d_nil)) (d_callB cr_len rc_len (by rfl) T.b_len (by decide +kernel) (d_cons (d_var (i := 0) (pv 0)) d_nil))) (d_cons d_int d_nil)))
      (d_seq (d_for PassesOwn.never rfl (d_iL (d_sortSet rfl hr.units (by rfl) T.b_sorted (by rfl) T.b_set (d_var (i := 1) (pv 1)))) (d_gN (i := 4) (by rfl) (pg_name (i := 4) sc_law_levels_due.nd rfl (by first | exact Or.inl rfl | exact Or.inr rfl))) (d_last (d_for PassesOwn.never rfl (d_iU (d_tup (d_cons d_int (d_cons d_int (d_cons d_int d_nil))))) (d_gN (i := 5) (by rfl) (pg_name (i := 5) sc_law_levels_due.nd rfl (by first | exact Or.inl rfl | exact Or.inr rfl))) (d_seq (d_fzS (d_setLc (own := [("k", 10), ("one", 13)]) (i := 6) (fun j => j == 10 || j == 13) (by rfl) (own_2) rfl sc_law_levels_due.nd rfl rfl (sw_true rfl rfl rfl (by decide +kernel)) (d_iE (by rfl) T.b_enumerate (d_cons (d_var (i := 0) (pv 0)) d_nil)) (blkOk_by (own := [("k", 10), ("one", 13)]) (N := N_law_levels_due) (sc := defScope s_law_levels_due) (by decide +kernel)) (fun _ _ _ _ _ => (d_gT rfl (d_gcons (d_gN (i := 10) (by rfl) (pg_name (i := 10) sc_law_levels_due.nd rfl (by first | exact Or.inl rfl | exact Or.inr rfl))) (d_gcons (d_gN (i := 13) (by rfl) (pg_name (i := 13) sc_law_levels_due.nd rfl (by first | exact Or.inl rfl | exact Or.inr rfl))) d_gnil)))) (fun _ _ _ _ _ => (d_tone (d_w (d_and (d_tcmp (op_eqX hr.units) rb_eqX (d_ix ix_seq rb_ix (d_var (i := 1) (pv 1)) (d_var (i := 10) (pv 10))) (d_var (i := 4) (pv 4)) (nomark _)) (d_and1 (d_tcmp (op_eqX hr.units) rb_eqX (d_ix ix_seq rb_ix (d_var (i := 13) (pv 13)) d_int) (d_var (i := 5) (pv 5)) (nomark _))))))) (fun _ _ _ _ _ => (d_tup (d_cons (d_ix ix_seq rb_ix (d_var (i := 13) (pv 13)) d_int) (d_cons (d_ix ix_seq rb_ix (d_var (i := 13) (pv 13)) d_int) (d_cons (d_var (i := 10) (pv 10)) d_nil)))))))
      (d_seq (d_set (i := 7) (by rfl) sc_law_levels_due.nd rfl (by first | exact Or.inl rfl | exact Or.inr rfl) (d_frz (d_lst d_nil)))
      (d_seq (d_for PassesOwn.never rfl (d_iL (d_callB (cr_sortD hr.units) rc_sortD (by rfl) T.b_sorted (by decide +kernel) (d_cons (d_var (i := 6) (pv 6)) d_nil))) (d_gT rfl (d_gcons (d_gN (i := 8) (by rfl) (pg_name (i := 8) sc_law_levels_due.nd rfl (by first | exact Or.inl rfl | exact Or.inr rfl))) (d_gcons (d_gN (i := 9) (by rfl) (pg_name (i := 9) sc_law_levels_due.nd rfl (by first | exact Or.inl rfl | exact Or.inr rfl))) (d_gcons (d_gN (i := 10) (by rfl) (pg_name (i := 10) sc_law_levels_due.nd rfl (by first | exact Or.inl rfl | exact Or.inr rfl))) d_gnil)))) (d_seq (d_fzS (d_setLc (own := [("at", 12), ("end", 14)]) (i := 11) (fun j => j == 12 || j == 14) (by rfl) (own_2) rfl sc_law_levels_due.nd rfl rfl (sw_true rfl rfl rfl (by decide +kernel)) (d_iE (by rfl) T.b_enumerate (d_cons (d_var (i := 7) (pv 7)) d_nil)) (blkOk_by (own := [("at", 12), ("end", 14)]) (N := N_law_levels_due) (sc := defScope s_law_levels_due) (by decide +kernel)) (fun _ _ _ _ _ => (d_gT rfl (d_gcons (d_gN (i := 12) (by rfl) (pg_name (i := 12) sc_law_levels_due.nd rfl (by first | exact Or.inl rfl | exact Or.inr rfl))) (d_gcons (d_gN (i := 14) (by rfl) (pg_name (i := 14) sc_law_levels_due.nd rfl (by first | exact Or.inl rfl | exact Or.inr rfl))) d_gnil)))) (fun _ _ _ _ _ => (d_tone (d_tcmp op_ltA rb_cmp (d_var (i := 14) (pv 14)) (d_var (i := 8) (pv 8)) (nomark _)))) (fun _ _ _ _ _ => (d_var (i := 12) (pv 12)))))
      (d_seq (d_set (i := 12) (by rfl) sc_law_levels_due.nd rfl (by first | exact Or.inl rfl | exact Or.inr rfl) (d_frz (d_if (d_tcmp (op_neX hr.units) rb_neX (d_var (i := 11) (pv 11)) (d_lst d_nil) (nomark _)) (d_ix ix_seq rb_ix (d_var (i := 11) (pv 11)) d_int) (d_callB cr_len rc_len (by rfl) T.b_len (by decide +kernel) (d_cons (d_var (i := 7) (pv 7)) d_nil)))))
      (d_seq (d_set (i := 7) (by rfl) sc_law_levels_due.nd rfl (by first | exact Or.inl rfl | exact Or.inr rfl) (d_frz (d_bin op_addA rb_add (d_bin op_addA rb_add (d_sl sl_A rsl (d_var (i := 7) (pv 7)) d_onone (d_osome (d_var (i := 12) (pv 12)))) (d_lst (d_cons (d_var (i := 9) (pv 9)) d_nil))) (d_sl sl_A rsl (d_var (i := 7) (pv 7)) (d_osome (d_bin op_addA rb_add (d_var (i := 12) (pv 12)) d_int)) d_onone))))
      (d_last (d_asg (d_bin op_addA rb_add (d_var (i := 3) (pv 3)) (d_bin op_mulY rb_mulX (d_var (i := 12) (pv 12)) (d_var (i := 5) (pv 5)))) (d_gSetL (i := 2) (pg_sub (pv 2) (d_var (i := 10) (pv 10)) set_list))))))))
      (d_last (d_set (i := 3) (by rfl) sc_law_levels_due.nd rfl (by first | exact Or.inl rfl | exact Or.inr rfl) (d_frz (d_bin op_addA rb_add (d_var (i := 3) (pv 3)) (d_bin op_mulY rb_mulX (d_callB cr_len rc_len (by rfl) T.b_len (by decide +kernel) (d_cons (d_var (i := 7) (pv 7)) d_nil)) (d_var (i := 5) (pv 5)))))))))))))
      (d_last (d_ret (d_mv (i := 2) (pv 2))))))) (fun ts k e hl h => val_law_levels_due ts k e h)
abbrev N_law_bound : List Str := ["pieces", "levels", "total", "level", "width", "some", "k", "one", "c"]
theorem sc_law_bound : FnScope N_law_bound ["pieces", "levels"] (defScope s_law_bound) := ⟨rfl, rfl, rfl, by decide +kernel, rfl, by decide +kernel, by decide +kernel⟩
def phi_law_bound : FT := fun ts k _ => ∃ (ps : List Pc) (lv : List Int), ts = [pcsT ps, .d (intsD lv)] ∧ (∀ a ∈ ps, -1 ≤ a.l ∧ a.l ≤ a.r ∧ a.r ≤ 40) ∧ lv.length = ps.length ∧ ps.length ≤ 1000 ∧ (∀ x ∈ lv, 0 ≤ x ∧ x ≤ 10000) ∧ k (.int (bndF ps lv)) [pcsT ps, .d (intsD lv)]
def sem_law_bound : SS :=
    (sSeq (sAsg (sC (.int 0)) (gN 2))
    (sSeq (sFor (sIL (sSortSet (sVar 1))) (gN 3) (sFor (sIU (sTup (sCons (sC (.int 1)) (sCons (sC (.int 2)) (sCons (sC (.int 3)) sNil))))) (gN 4) (sSeq (sAsg (sFrz (sLc [6, 7] (sIE (sCons (sVar 0) sNil)) (gT 2 (gCons (gN 6) (gCons (gN 7) gNil))) (sAnd (sTest (sBin fEqX (sBin fIx (sVar 1) (sVar 6)) (sVar 3))) (sTest (sBin fEqX (sBin fIx (sVar 7) (sC (.int 3))) (sVar 4)))) (sVar 7))) (gN 5))
    (sAsg (sFrz (sBin fAdd (sVar 2) (sBin fMulX (sVar 4) (sCB (fc1 fMaxL) (sCons (sLc [8] (sIR2 (sCons (sNeg (sC (.int 1))) (sCons (sC (.int 41)) sNil))) (gN 8) sYes (sCB (fc1 fLen) (sCons (sLc [7] (sIL (sVar 5)) (gN 7) (sTest (sChain fLe fLe (sBin fIx (sVar 7) (sC (.int 1))) (sVar 8) (sBin fIx (sVar 7) (sC (.int 2))))) (sVar 7)) sNil))) sNil))))) (gN 2)))))
    (sRet (sVar 2))))
abbrev B_law_bound : Nat → Bool := (fun j => j == 2 || j == 3 || j == 4 || j == 5)
theorem val_law_bound (ts k e) (h : phi_law_bound ts k e) : sem_law_bound (endP B_law_bound ts k fun _ _ => False) (ts ++ [.gone, .gone, .gone, .gone, .gone, .gone, .gone]) := by
  obtain ⟨ps, lv, rfl, hcol, hlv, hl, h0, hk⟩ := h
  have hpl : (ps.map pcD).length = ps.length := List.length_map ..
  have hlr : ∀ a ∈ ps, a.l ≤ a.r := fun a h => (hcol a h).2.1
  walk_at "wp"
  refine ⟨lv.map fun i => (.inl i : Key), by rw [List.map_map, List.map_map]; rfl, by rw [List.length_map]; omega, al_ints lv, fun zs nd hm => ?_⟩
  obtain ⟨ys, ey, hy, hmy⟩ := sorted_ints nd hm
  rw [ey]
  have hby : bndF ps lv = (levF ps lv ys).1 := by
    unfold bndF
    rw [levF_rise (fun x hx => (h0 x hx).1) hy hmy]
  rw [hby] at hk
  walk_at "wp"
  refine forL_of (fun i env => ∃ (x3 x4 x5 x6 x7 x8 : T), env = [pcsT ps, .d (intsD lv), .int (levF ps lv (ys.take i)).1, x3, x4, x5, x6, x7, x8]) ⟨_, _, _, _, _, _, rfl⟩ ?_ ?_
  · rintro i t env N ht ⟨x3, x4, x5, x6, x7, x8, rfl⟩ hN
    rw [List.getElem?_map, List.getElem?_map] at ht
    obtain ⟨u', hu', rfl⟩ := Option.map_eq_some_iff.mp ht
    obtain ⟨L, hL, rfl⟩ := Option.map_eq_some_iff.mp hu'
    have hst := levF_take (ps := ps) (lv := lv) hL
    have hsf := stepL_fst ps lv (levF ps lv (ys.take i)) L
    rw [hst, hsf] at hN
    generalize hB : (levF ps lv (ys.take i)).1 = b0 at *
    walk_at "wp"
    refine forL_of (fun j env => ∃ (x4 x5 x6 x7 x8 : T), env = [pcsT ps, .d (intsD lv), .int (if j = 0 then b0 else if j = 1 then b0 + lenG ps lv L 1 * 1 else if j = 2 then b0 + lenG ps lv L 1 * 1 + lenG ps lv L 2 * 2 else b0 + lenG ps lv L 3 * 3 + lenG ps lv L 2 * 2 + lenG ps lv L 1 * 1), .int L, x4, x5, x6, x7, x8]) ⟨_, _, _, _, _, rfl⟩ ?_ ?_
    · rintro j t env N' ht' ⟨x4, x5, x6, x7, x8, rfl⟩ hN'
      have hjt : j < 3 ∧ t = .int (1 + (j : Int)) := by
        match j, ht' with
        | 0, e => exact ⟨by decide, (Option.some.inj e).symm⟩
        | 1, e => exact ⟨by decide, (Option.some.inj e).symm⟩
        | 2, e => exact ⟨by decide, (Option.some.inj e).symm⟩
        | n + 3, e => cases e
      obtain ⟨hj, rfl⟩ := hjt
      have hlen := selP_len (L := L) (w := 1 + (j : Int)) hlv
      obtain ⟨hG1, hG2⟩ := lenG_max (L := L) (w := 1 + (j : Int)) (lv := lv) hlr
      have hen : (enumT ((ps.map pcD).map T.d)).length = ps.length := by rw [enumT_len, List.length_map, List.length_map]
      generalize htot : (if j = 0 then b0 else if j = 1 then b0 + lenG ps lv L 1 * 1 else if j = 2 then b0 + lenG ps lv L 1 * 1 + lenG ps lv L 2 * 2 else b0 + lenG ps lv L 3 * 3 + lenG ps lv L 2 * 2 + lenG ps lv L 1 * 1) = tot
      have hlG : lenG ps lv L (1 + (j : Int)) ≤ 100000 := by
        have h1 := lay_le (ord_ok hlr lv L (1 + (j : Int)))
        have h2 := ord_len (L := L) (w := 1 + (j : Int)) hlv
        unfold lenG
        omega
      walk_at "wp"
      refine ⟨by omega, ?_⟩
      refine lcL_of (fun m acc env => ∃ (y6 y7 : T), acc = (selP (ps.take m) (lv.take m) L (1 + (j : Int))).map (fun x => .d (pcD x)) ∧ env = [pcsT ps, .d (intsD lv), .int tot, .int L, .int (1 + (j : Int)), x5, y6, y7, x8]) ⟨_, _, rfl, rfl⟩ ?_ ?_
      · rintro m t acc env N2 ht2 ⟨y6, y7, rfl, rfl⟩ hN2
        obtain ⟨u, hu, rfl⟩ := enumT_get ht2
        rw [List.getElem?_map, List.getElem?_map] at hu
        obtain ⟨u', hu', rfl⟩ := Option.map_eq_some_iff.mp hu
        obtain ⟨a, ha, rfl⟩ := Option.map_eq_some_iff.mp hu'
        have hm' : m < ps.length := (List.getElem?_eq_some_iff.mp ha).1
        obtain ⟨x, hx⟩ : ∃ x, lv[m]? = some x := ⟨_, List.getElem?_eq_getElem (by omega)⟩
        have est := selP_take_succ (L := L) (w := 1 + (j : Int)) ha hx
        walk_at "wp"
        refine asO_at (n := m) rfl (get_map hx) ?_
        walk_at "wp"
        refine wh_Ei (fun h1 => ?_) (fun h1 => ?_)
        · walk_at "wp"
          refine wh_Ei (fun h2 => ?_) (fun h2 => ?_)
          · walk_at "wp"
            refine hN2 _ _ ⟨_, _, ?_, rfl⟩
            rw [est, if_pos ⟨h1, h2⟩, List.map_append]
            rfl
          · walk_at "wp"
            refine hN2 _ _ ⟨_, _, ?_, rfl⟩
            rw [est, if_neg fun z => h2 z.2, List.append_nil]
        · walk_at "wp"
          refine hN2 _ _ ⟨_, _, ?_, rfl⟩
          rw [est, if_neg fun z => h1 z.1, List.append_nil]
      rintro acc env ⟨y6, y7, rfl, rfl⟩
      rw [hen, List.take_length, ← hlv, List.take_length]
      have efT : frzL ((selP ps lv L (1 + (j : Int))).map fun x => T.d (pcD x)) = (selP ps lv L (1 + (j : Int))).map pcD := frzL_of (fun _ => rfl) _
      have hcr := crowd_selP ps lv L (1 + (j : Int))
      generalize hss : selP ps lv L (1 + (j : Int)) = ss at *
      walk_at "wp"
      refine ⟨⟨by decide, by decide⟩, ⟨by decide, by decide⟩, by decide, ?_⟩
      refine lcL_of (fun m acc env => ∃ (es : List Int) (tS x8 : T), acc = es.map T.int ∧ es.length = m ∧ env = [pcsT ps, .d (intsD lv), .int tot, .int L, .int (1 + (j : Int)), tS, x6, x7, x8] ∧ tS = .d (.lst (ss.map pcD)) ∧ ∀ (c : Nat) (v : Int), es[c]? = some v → v = crowd (selF ps lv L (1 + (j : Int))) (-1 + (c : Int))) ⟨[], _, _, rfl, rfl, rfl, (by show T.d (.lst (frzL (ss.map fun x => T.d (pcD x)))) = _; rw [efT]), fun c v h => by cases h⟩ ?_ ?_
      · rintro m t acc env N2 ht2 ⟨es, tS, x8, rfl, hes, rfl, rfl, hev⟩ hN2
        obtain ⟨hm', rfl⟩ := rngT_get ht2
        walk_at "wp"
        refine ⟨by rw [List.length_map, List.length_map]; omega, ?_⟩
        refine lcL_of (fun q acc env => ∃ (y7 : T), acc = ((ss.take q).filter fun a => decide (a.l ≤ -1 + (m : Int)) && decide (-1 + (m : Int) ≤ a.r)).map (fun x => .d (pcD x)) ∧ env = [pcsT ps, .d (intsD lv), .int tot, .int L, .int (1 + (j : Int)), .d (.lst (ss.map pcD)), x6, y7, .int (-1 + (m : Int))]) ⟨_, rfl, rfl⟩ ?_ ?_
        · rintro q t acc env N3 ht3 ⟨y7, rfl, rfl⟩ hN3
          rw [List.getElem?_map, List.getElem?_map] at ht3
          obtain ⟨u', hu', rfl⟩ := Option.map_eq_some_iff.mp ht3
          obtain ⟨a, ha, rfl⟩ := Option.map_eq_some_iff.mp hu'
          have est : (ss.take (q + 1)).filter (fun a => decide (a.l ≤ -1 + (m : Int)) && decide (-1 + (m : Int) ≤ a.r)) = (ss.take q).filter (fun a => decide (a.l ≤ -1 + (m : Int)) && decide (-1 + (m : Int) ≤ a.r)) ++ if a.l ≤ -1 + (m : Int) ∧ -1 + (m : Int) ≤ a.r then [a] else [] := by
            rw [List.take_add_one, ha, List.filter_append]
            congr 1
            show [a].filter _ = _
            rw [List.filter_cons]
            simp
          walk_at "wp"
          refine wh_d (fun h1 => ?_) (fun h1 => ?_)
          · walk_at "wp"
            refine wh_d (fun h2 => ?_) (fun h2 => ?_)
            · walk_at "wp"
              refine hN3 _ _ ⟨_, ?_, rfl⟩
              rw [est, if_pos ⟨h1, h2⟩, List.map_append]
              rfl
            · walk_at "wp"
              refine hN3 _ _ ⟨_, ?_, rfl⟩
              rw [est, if_neg fun z => h2 z.2, List.append_nil]
          · walk_at "wp"
            refine hN3 _ _ ⟨_, ?_, rfl⟩
            rw [est, if_neg fun z => h1 z.1, List.append_nil]
        rintro acc env ⟨y7, rfl, rfl⟩
        rw [List.length_map, List.length_map, List.take_length]
        have hcm := hcr (-1 + (m : Int))
        walk_at "wp"
        rw [List.length_map, ← hcm]
        refine hN2 _ _ ⟨es ++ [((crowd (selF ps lv L (1 + (j : Int))) (-1 + (m : Int)) : Nat) : Int)], _, _, by rw [List.map_append]; rfl, by rw [List.length_append, hes]; rfl, rfl, rfl, fun c v hc => ?_⟩
        rw [List.getElem?_append] at hc
        split at hc
        · exact hev c v hc
        · have e : c = m := by
            have := (List.getElem?_eq_some_iff.mp hc).1
            simp at this
            omega
          subst e
          rw [hes, Nat.sub_self] at hc
          cases hc
          rfl
      rintro acc env ⟨es, tS, y8, rfl, hes, rfl, rfl, hev⟩
      have hes : es.length = 42 := hes
      walk_at "wp"
      refine ⟨es, rfl, by omega, fun m hm1 hm2 => ?_⟩
      have hmG : m = lenG ps lv L (1 + (j : Int)) := by
        obtain ⟨c, hc⟩ := List.mem_iff_getElem?.mp hm1
        have h1 := hev c m hc
        have h2 := hG1 (-1 + (c : Int))
        by_cases e : lenG ps lv L (1 + (j : Int)) = 0
        · omega
        · obtain ⟨a, ha, h3⟩ := hG2 e
          have hca := hcol a ha
          obtain ⟨v, hv⟩ : ∃ v, es[(a.l + 1).toNat]? = some v := ⟨_, List.getElem?_eq_getElem (by omega)⟩
          have h4 := hev _ v hv
          have h5 := hm2 v (List.mem_of_getElem? hv)
          have e6 : -1 + (((a.l + 1).toNat : Nat) : Int) = a.l := by omega
          rw [e6] at h4
          omega
      subst hmG
      walk_at "wp"
      refine ⟨cmul_r (by omega) (by omega), ?_⟩
      walk_at "wp"
      refine hN' _ ⟨.int (1 + (j : Int)), .d (.lst (ss.map pcD)), x6, x7, x8, ?_⟩
      · subst htot
        rcases (show j = 0 ∨ j = 1 ∨ j = 2 by omega) with z | z | z
        · subst z
          show [_, _, T.int (b0 + (1 + ((0 : Nat) : Int)) * (lenG ps lv L 1 : Int)), _, _, _, _, _, _] = [_, _, T.int (b0 + lenG ps lv L 1 * 1), _, _, _, _, _, _]
          rw [show (1 + ((0 : Nat) : Int)) = 1 from rfl, Int.mul_comm]
          rfl
        · subst z
          show [_, _, T.int (b0 + lenG ps lv L 1 * 1 + (1 + ((1 : Nat) : Int)) * (lenG ps lv L 2 : Int)), _, _, _, _, _, _] = [_, _, T.int (b0 + lenG ps lv L 1 * 1 + lenG ps lv L 2 * 2), _, _, _, _, _, _]
          rw [show (1 + ((1 : Nat) : Int)) = 2 from rfl, Int.mul_comm 2]
          rfl
        · subst z
          show [_, _, T.int (b0 + lenG ps lv L 1 * 1 + lenG ps lv L 2 * 2 + (1 + ((2 : Nat) : Int)) * (lenG ps lv L 3 : Int)), _, _, _, _, _, _] = [_, _, T.int (b0 + lenG ps lv L 3 * 3 + lenG ps lv L 2 * 2 + lenG ps lv L 1 * 1), _, _, _, _, _, _]
          have e7 : b0 + (lenG ps lv L 1 : Int) * 1 + (lenG ps lv L 2 : Int) * 2 + (1 + ((2 : Nat) : Int)) * (lenG ps lv L 3 : Int) = b0 + (lenG ps lv L 3 : Int) * 3 + (lenG ps lv L 2 : Int) * 2 + (lenG ps lv L 1 : Int) * 1 := by omega
          rw [e7]
          rfl
    · rintro env ⟨x4, x5, x6, x7, x8, rfl⟩
      walk_at "wp"
      exact hN _ ⟨_, _, _, _, _, _, rfl⟩
  · rintro env ⟨x3, x4, x5, x6, x7, x8, rfl⟩
    rw [List.length_map, List.length_map, List.take_length]
    walk_at "wp"
    exact hk
theorem ok_law_bound {P : Program} {w : World} {K : PySem.W.Frag} {mg : Str → Option Value} {base : Heap} (T : Tx K mg) : FnG P w K mg base CX0 1 T.a_law_bound T.fd_law_bound ["pieces", "levels"] (spT K 2 phi_law_bound) :=
  def_okG B_law_bound T.F_law_bound sc_law_bound sem_law_bound (fun cdv A outer s H E hG hr =>
      (d_seq (d_set (i := 2) (by rfl) sc_law_bound.nd rfl (by first | exact Or.inl rfl | exact Or.inr rfl) d_int)
      (d_seq (d_for PassesOwn.never rfl (d_iL (d_sortSet rfl hr.units (by rfl) T.b_sorted (by rfl) T.b_set (d_var (i := 1) (pv 1)))) (d_gN (i := 3) (by rfl) (pg_name (i := 3) sc_law_bound.nd rfl (by first | exact Or.inl rfl | exact Or.inr rfl))) (d_last (d_for PassesOwn.never rfl (d_iU (d_tup (d_cons d_int (d_cons d_int (d_cons d_int d_nil))))) (d_gN (i := 4) (by rfl) (pg_name (i := 4) sc_law_bound.nd rfl (by first | exact Or.inl rfl | exact Or.inr rfl))) (d_seq (d_set (i := 5) (by rfl) sc_law_bound.nd rfl (by first | exact Or.inl rfl | exact Or.inr rfl) (d_frz (d_lc (own := [("k", 6), ("one", 7)]) (fun j => j == 6 || j == 7) (own_2) rfl sc_law_bound.nd (d_iE (by rfl) T.b_enumerate (d_cons (d_var (i := 0) (pv 0)) d_nil)) (blkOk_by (own := [("k", 6), ("one", 7)]) (N := N_law_bound) (sc := defScope s_law_bound) (by decide +kernel)) (fun _ _ _ _ _ => (d_gT rfl (d_gcons (d_gN (i := 6) (by rfl) (pg_name (i := 6) sc_law_bound.nd rfl (by first | exact Or.inl rfl | exact Or.inr rfl))) (d_gcons (d_gN (i := 7) (by rfl) (pg_name (i := 7) sc_law_bound.nd rfl (by first | exact Or.inl rfl | exact Or.inr rfl))) d_gnil)))) (fun _ _ _ _ _ => (d_tone (d_w (d_and (d_tcmp (op_eqX hr.units) rb_eqX (d_ix ix_seq rb_ix (d_var (i := 1) (pv 1)) (d_var (i := 6) (pv 6))) (d_var (i := 3) (pv 3)) (nomark _)) (d_and1 (d_tcmp (op_eqX hr.units) rb_eqX (d_ix ix_seq rb_ix (d_var (i := 7) (pv 7)) d_int) (d_var (i := 4) (pv 4)) (nomark _))))))) (fun _ _ _ _ _ => (d_var (i := 7) (pv 7))))))
      (d_last (d_set (i := 2) (by rfl) sc_law_bound.nd rfl (by first | exact Or.inl rfl | exact Or.inr rfl) (d_frz (d_bin op_addA rb_add (d_var (i := 2) (pv 2)) (d_bin op_mulY rb_mulX (d_var (i := 4) (pv 4)) (d_callB (cr_max rfl) rc_maxL (by rfl) T.b_max (by decide +kernel) (d_cons (d_lc (own := [("c", 8)]) (fun j => j == 8) (own_1) rfl sc_law_bound.nd (d_iR2 (by rfl) T.b_range (d_cons (d_neg d_int) (d_cons d_int d_nil))) (blkOk_by (own := [("c", 8)]) (N := N_law_bound) (sc := defScope s_law_bound) (by decide +kernel)) (fun _ _ _ _ _ => (d_gN (i := 8) (by rfl) (pg_name (i := 8) sc_law_bound.nd rfl (by first | exact Or.inl rfl | exact Or.inr rfl)))) (fun _ _ _ _ _ => d_tnil) (fun _ _ _ _ _ => (d_callB cr_len rc_len (by rfl) T.b_len (by decide +kernel) (d_cons (d_lc (own := [("one", 7)]) (fun j => j == 7) (own_1) rfl sc_law_bound.nd (d_iL (d_var (i := 5) (pv 5))) (blkOk_by (own := [("one", 7)]) (N := N_law_bound) (by kernel_rfl)) (fun _ _ _ _ _ => (d_gN (i := 7) (by rfl) (pg_name (i := 7) sc_law_bound.nd rfl (by first | exact Or.inl rfl | exact Or.inr rfl)))) (fun _ _ _ _ _ => (d_tone (d_tchain op_leA op_leA rb_cmp rb_cmp (d_ix ix_seq rb_ix (d_var (i := 7) (pv 7)) d_int) (d_var (i := 8) (pv 8)) (d_ix ix_seq rb_ix (d_var (i := 7) (pv 7)) d_int)))) (fun _ _ _ _ _ => (d_var (i := 7) (pv 7)))) d_nil)))) d_nil)))))))))))
      (d_last (d_ret (d_var (i := 2) (pv 2))))))) (fun ts k e hl h => val_law_bound ts k e h)
abbrev N_law : List Str := ["script", "cells", "k", "box", "pieces", "step", "levels", "kept", "due", "echo", "found", "many", "one"]
theorem sc_law : FnScope N_law ["script"] (defScope s_law) := ⟨rfl, rfl, rfl, by decide +kernel, rfl, by decide +kernel, by decide +kernel⟩
def phi_law : FT := fun ts k _ => ∃ ns : List Int, ts = [.d (.lst (ns.map D.int))] ∧ ns.length ≤ 63 ∧ k (.bl true) [.d (.lst (ns.map D.int))]
theorem law_phi (ns : List Int) (hl : ns.length ≤ 63) : phi_law [.d (.lst (ns.map D.int))] (fun t _ => t = .bl true) fun _ _ => False := ⟨ns, rfl, hl, rfl⟩
theorem two_shw {ps : List Pc} {lv : List Int} (h1 : ∀ a ∈ ps, PcOk a) (h3 : ∀ x ∈ lv, Small x) (l1 : ps.length ≤ 1000) (l3 : lv.length ≤ 1000) : Shw (.lst [.lst (ps.map pcD), intsD lv]) := by
  refine Pr.mono (Pr.lst (w := 165000) (n := 2) (l := 2) (fun d hd => ?_) (Nat.le_refl _)) (by decide) (by decide)
  simp only [List.mem_cons, List.not_mem_nil, or_false] at hd
  rcases hd with rfl | rfl
  · refine (Pr.lst (w := 164) (n := 1) (l := 1000) (fun d hd => ?_) (by rw [List.length_map]; exact l1)).mono (by decide) (by decide)
    obtain ⟨a, ha, rfl⟩ := List.mem_map.mp hd
    exact (h1 a ha).pr
  · refine (Pr.lst (w := 40) (n := 1) (l := 1000) (fun d hd => ?_) (by rw [List.length_map]; exact l3)).mono (by decide) (by decide)
    obtain ⟨a, ha, rfl⟩ := List.mem_map.mp hd
    exact Pr.int (h3 a ha)
def sem_law : SS :=
    (sSeq (sAsg (sFrz (sCall0 2 phi_law_folded [] (sCons (sVar 0) (sCons (sC (.int 4)) sNil)))) (gN 1))
    (sSeq (sFor (sIR1 (sCons (sCB (fc2 fMax2) (sCons (sC (.int 1)) (sCons (sCB (fc1 fLen) (sCons (sVar 1) sNil)) sNil))) sNil)) (gN 2) (sSeq (sAsg (sCall0 2 phi_law_box [] (sCons (sVar 1) (sCons (sVar 2) sNil))) (gN 3))
    (sSeq (sAsg (sFrz (sCall0 3 phi_law_pieces [] (sLend 3 (sCons (sC (.int 1)) (sCons (sIf (sTest (sBin fEqX (sCall0 2 phi_law_take [] (sLend 3 (sCons (sC (.int 8)) sNil))) (sC (.int 0)))) (sC (.int 120)) (sC (.int 20))) sNil))))) (gN 4))
    (sSeq (sAsg (sFrz (sBin fAdd (sC (.int 1)) (sCall0 2 phi_law_take [] (sLend 3 (sCons (sC (.int 40)) sNil))))) (gN 5))
    (sSeq (sFzS 6 (sAsg (sLc [12] (sIL (sVar 4)) (gN 12) sYes (sBin fMulX (sVar 5) (sCall0 2 phi_law_take [] (sLend 3 (sCons (sBin fAdd (sC (.int 1)) (sBin fDiv (sC (.int 119)) (sVar 5))) sNil))))) (gN 6)))
    (sSeq (sPar2 7 8 (sCons (sFrz (sCB (fc1 fStr) (sCons (sLst (sCons (sVar 4) (sCons (sVar 6) sNil))) sNil))) (sCons (sFrz (sCall0 2 phi_law_levels_due [] (sCons (sVar 4) (sCons (sVar 6) sNil)))) sNil)))
    (sFor (sIR1 (sCons (sC (.int 2)) sNil)) (gN 9) (sSeq (sAsg (sCall0 2 phi_by_levels [] (sCons (sVar 4) (sCons (sVar 6) sNil))) (gN 10))
    (sSeq (sAsg (sFrz (sRd (sCall0 2 phi_count_of [] (sCons (sVar 4) (sCons (sVar 10) sNil))))) (gN 11))
    (sSeq (sIfS (sOr (sRdB (sTest (sBin fNeX (sVar 10) (sVar 8)))) (sOr (sNot (sTest (sRd (sIsTy .list (sVar 10))))) (sTest (sBin fNeX (sCB (fc1 fStr) (sCons (sLst (sCons (sVar 4) (sCons (sVar 6) sNil))) sNil)) (sVar 7))))) (sRet (sC (.bl false))) sSkip)
    (sSeq (sIfS (sOr (sTest (sBin fNeX (sVar 11) (sCall0 2 phi_law_bound [] (sCons (sVar 4) (sCons (sVar 6) sNil))))) (sOr (sTest (sBin fNeX (sCall0 2 phi_bound_of [] (sCons (sVar 4) (sCons (sVar 6) sNil))) (sVar 11))) (sTest (sIsTy .bool (sVar 11))))) (sRet (sC (.bl false))) sSkip)
    (sDrop (sMeth 10 fmAppend (sCons (sC (.int 0)) sNil))))))))))))))
    (sRet (sC (.bl true)))))
abbrev B_law : Nat → Bool := (fun j => j == 1 || j == 2 || j == 3 || j == 4 || j == 5 || j == 6 || j == 7 || j == 8 || j == 9 || j == 10 || j == 11)
theorem val_law (ts k e) (h : phi_law ts k e) : sem_law (endP B_law ts k fun _ _ => False) (ts ++ [.gone, .gone, .gone, .gone, .gone, .gone, .gone, .gone, .gone, .gone, .gone, .gone]) := by
  obtain ⟨ns, rfl, hl, hk⟩ := h
  walk_at "wp"
  refine ⟨ns, 4, rfl, by decide, by decide, hl, fun ms hms => ?_⟩
  have hms2 : ms.length ≤ 4 := by omega
  have hfr : frzL (ms.map T.int) = ms.map D.int := frzL_of (fun _ => rfl) ms
  walk_at "wp"
  have hmx : (if ((frzL (ms.map T.int)).length : Int) > 1 then ((frzL (ms.map T.int)).length : Int) else 1) ≤ 4 ∧ 1 ≤ (if ((frzL (ms.map T.int)).length : Int) > 1 then ((frzL (ms.map T.int)).length : Int) else 1) := by
    rw [hfr, List.length_map]
    split <;> omega
  refine ⟨⟨by omega, by omega⟩, ?_⟩
  refine forL_of (fun i env => ∃ (x1 x2 x3 x4 x5 x6 x7 x8 x9 x10 x11 x12 : T), env = [.d (.lst (ns.map D.int)), x1, x2, x3, x4, x5, x6, x7, x8, x9, x10, x11, x12] ∧ x1 = .d (.lst (ms.map D.int))) ⟨_, _, _, _, _, _, _, _, _, _, _, _, rfl, (by show T.d (.lst (frzL (ms.map T.int))) = _; rw [hfr])⟩ ?_ ?_
  · rintro i t env N ht ⟨x1, x2, x3, x4, x5, x6, x7, x8, x9, x10, x11, x12, rfl, rfl⟩ hN
    obtain ⟨hi, rfl⟩ := rngT_get ht
    walk_at "wp"
    refine ⟨ms, (0 + (i : Int)), rfl, by omega, by omega, fun a b ha hb hb2 => ?_⟩
    walk_at "wp"
    walk_at "tk"
    intro r1 a1 c1 r1a r1b a1h c1a c1b
    walk_at "wp"
    refine wh_join (fun t env => ∃ n : Nat, t = .int n ∧ env = [.d (.lst (ns.map D.int)), .d (.lst (ms.map D.int)), .int (0 + (i : Int)), boxT a1 b c1, x4, x5, x6, x7, x8, x9, x10, x11, x12] ∧ 1 ≤ n ∧ n ≤ 120) (fun _ Q hQ => ?_) (fun _ Q hQ => ?_) ?_
    · walk_at "wp"
      exact hQ _ _ ⟨120, rfl, rfl, by decide, by decide⟩
    · walk_at "wp"
      exact hQ _ _ ⟨20, rfl, rfl, by decide, by decide⟩
    rintro t env ⟨n, rfl, rfl, hn1, hn2⟩
    walk_at "wp"
    refine ⟨a1, b, c1, 1, n, rfl, a1h, hb, hb2, by omega, by omega, hn1, by omega, fun ps a2 c2 hp1 hp2 hpb _ a2h c2a c2b => ?_⟩
    have efp : frzL (ps.map fun p => T.d (pcD p)) = ps.map pcD := frzL_of (fun _ => rfl) ps
    walk_at "wp"
    walk_at "tk"
    intro r3 a3 c3 r3a r3b a3h c3a c3b
    walk_at "wp"
    rw [efp]
    refine ⟨by rw [List.length_map, List.length_map]; omega, ?_⟩
    have h119 : 0 ≤ (119 : Int) / (1 + r3) ∧ (119 : Int) / (1 + r3) ≤ 119 ∧ (1 + r3) * (119 / (1 + r3)) ≤ 119 := ⟨Int.ediv_nonneg (by decide) (by omega), Int.ediv_le_self _ (by decide), Int.mul_ediv_self_le (by omega)⟩
    refine lcL_of (fun m acc env => ∃ (lv : List Int) (a' c' : Int) (x4 x12 : T), acc = lv.map T.int ∧ env = [.d (.lst (ns.map D.int)), .d (.lst (ms.map D.int)), .int (0 + (i : Int)), boxT a' b c', x4, .int (1 + r3), x6, x7, x8, x9, x10, x11, x12] ∧ x4 = pcsT ps ∧ lv.length = m ∧ (∀ x ∈ lv, 0 ≤ x ∧ x ≤ 119) ∧ 0 ≤ a' ∧ c3 ≤ c' ∧ c' ≤ c3 + m) ⟨[], a3, c3, _, _, rfl, rfl, (by show T.d (.lst (frzL (ps.map fun p => T.d (pcD p)))) = _; rw [efp]), rfl, (fun x hx => by cases hx), a3h, by omega, by omega⟩ ?_ ?_
    · rintro m t acc env N2 ht2 ⟨lv, a', c', x4, x12, rfl, rfl, rfl, hlv, hlb, a'h, c'a, c'b⟩ hN2
      rw [List.getElem?_map, List.getElem?_map] at ht2
      obtain ⟨u', hu', rfl⟩ := Option.map_eq_some_iff.mp ht2
      obtain ⟨a, ha, rfl⟩ := Option.map_eq_some_iff.mp hu'
      have hmp := (List.getElem?_eq_some_iff.mp ha).1
      walk_at "wp"
      refine ⟨⟨by omega, by omega⟩, ?_⟩
      walk_at "wp"
      walk_at "tk"
      intro r4 a4 c4 r4a r4b a4h c4a c4b
      walk_at "wp"
      refine ⟨cmul_l (by omega) (by omega), ?_⟩
      walk_at "wp"
      refine hN2 _ _ ⟨lv ++ [(1 + r3) * r4], a4, c4, _, _, by rw [List.map_append]; rfl, rfl, rfl, by rw [List.length_append, hlv]; rfl, fun x hx => ?_, a4h, by omega, by omega⟩
      rcases List.mem_append.mp hx with z | z
      · exact hlb x z
      · rw [List.mem_singleton] at z
        subst z
        have h1 : (1 + r3) * r4 ≤ (1 + r3) * (119 / (1 + r3)) := Int.mul_le_mul_of_nonneg_left (by omega) (by omega)
        have h2 : 0 ≤ (1 + r3) * r4 := Int.mul_nonneg (by omega) r4a
        omega
    rintro acc env ⟨lv, a', c', y4, y12, rfl, rfl, rfl, hlv, hlb, a'h, c'a, c'b⟩
    rw [List.length_map, List.length_map] at hlv
    have efl : frzL (lv.map T.int) = lv.map D.int := frzL_of (fun _ => rfl) lv
    have hS : Shw (.lst [.lst (ps.map pcD), intsD lv]) := two_shw (fun a h => (hpb a h).ok) (fun x hx => by have := hlb x hx; unfold Small; omega) (by omega) (by omega)
    have hlr : ∀ a ∈ ps, a.l ≤ a.r := fun a h => (hpb a h).lr
    have hw : ∀ a ∈ ps, 1 ≤ a.w ∧ a.w ≤ 3 := fun a h => ⟨(hpb a h).w0, (hpb a h).w1⟩
    have hlb2 : ∀ x ∈ lv, 0 ≤ x ∧ x ≤ 10000 := fun x hx => by have := hlb x hx; omega
    have hbl := byLv_len hlr hw hlv fun x hx => (hlb x hx).1
    have hS2 : Shw (.lst [.lst (ps.map pcD), .lst (frzL (lv.map T.int))]) := by rw [efl]; exact hS
    have eA : [pcsT ps, T.d (.lst (frzL (lv.map T.int)))] = [pcsT ps, .d (intsD lv)] := by rw [efl]
    walk_at "wp"
    refine ⟨hS2, ?_⟩
    walk_at "wp"
    refine ⟨ps, lv, eA, hlr, hw, hlv, by omega, hlb2, ?_⟩
    have efb : frzL ((byLv ps lv).map T.int) = (byLv ps lv).map D.int := frzL_of (fun _ => rfl) _
    walk_at "wp"
    refine ⟨⟨by decide, by decide⟩, ?_⟩
    refine forL_of (fun j env => ∃ (x9 x10 x11 x12 : T), env = [.d (.lst (ns.map D.int)), .d (.lst (ms.map D.int)), .int (0 + (i : Int)), boxT a' b c', pcsT ps, .int (1 + r3), .d (.lst (frzL (lv.map T.int))), .d (.fl (.str (py (.lst [.lst (ps.map pcD), .lst (frzL (lv.map T.int))])).shown)), .d (.lst (frzL ((byLv ps lv).map T.int))), x9, x10, x11, x12]) ⟨_, _, _, _, rfl⟩ ?_ ?_
    · rintro j t env N2 ht2 ⟨x9, x10, x11, x12, rfl⟩ hN2
      obtain ⟨hj, rfl⟩ := rngT_get ht2
      walk_at "wp"
      refine ⟨ps, lv, eA, hlr, hw, hlv, by omega, hlb2, ?_⟩
      walk_at "wp"
      refine ⟨ps, byLv ps lv, ?_, hbl, by omega, fun m hm => ?_⟩
      · show [pcsT ps, T.d (.lst (frzL ((byLv ps lv).map T.int)))] = _
        rw [efb]
      have hne : ps ≠ [] := fun e => by rw [e] at hp1; exact absurd hp1 (by decide)
      have hmb := byLv_count hne hlr hw hlv (fun x hx => (hlb x hx).1) hm
      subst hmb
      have hsb : Sh 64 (.lst (frzL ((byLv ps lv).map T.int))) := by
        rw [efb]
        refine (Sh.lst (n := 0) fun d hd => ?_).mono (by decide)
        obtain ⟨n, _, rfl⟩ := List.mem_map.mp hd
        exact .int
      walk_at "wp"
      refine ⟨hsb, hsb, ?_⟩
      refine wh_neDS ?_
      walk_at "wp"
      refine ⟨hS2, ?_⟩
      walk_at "wp"
      refine wh_neS ?_
      walk_at "wp"
      refine ⟨ps, lv, eA, fun a h => ⟨(hpb a h).l0, (hpb a h).lr, (hpb a h).r1⟩, hlv, by omega, hlb2, ?_⟩
      walk_at "wp"
      refine wh_neS ?_
      walk_at "wp"
      refine ⟨ps, lv, eA, hlr, hlv, by omega, hlb2, ?_⟩
      walk_at "wp"
      refine wh_neS ?_
      walk_at "wp"
      refine ⟨by rw [List.length_map, hbl]; omega, ?_⟩
      walk_at "wp"
      exact hN2 _ ⟨_, _, _, _, rfl⟩
    · rintro env ⟨x9, x10, x11, x12, rfl⟩
      walk_at "wp"
      exact hN _ ⟨_, _, _, _, _, _, _, _, _, _, _, _, rfl, rfl⟩
  · rintro env ⟨x1, x2, x3, x4, x5, x6, x7, x8, x9, x10, x11, x12, rfl, rfl⟩
    walk_at "wp"
    exact hk
theorem ok_law {P : Program} {w : World} {K : PySem.W.Frag} {mg : Str → Option Value} {base : Heap} (T : Tx K mg) : FnG P w K mg base CX0 5 T.a_law T.fd_law ["script"] (spT K 1 phi_law) :=
  def_okG B_law T.F_law sc_law sem_law (fun cdv A outer s H E hG hr =>
      (d_seq (d_set (i := 1) (by rfl) sc_law.nd rfl (by first | exact Or.inl rfl | exact Or.inr rfl) (d_frz (d_callG0 (ok_law_folded T) hG (hr.mono (by decide)) (by rfl) T.m_law_folded T.F_law_folded.kp T.B_law_folded .nil (d_cons (d_var (i := 0) (pv 0)) (d_cons d_int d_nil)))))
      (d_seq (d_for PassesOwn.never rfl (d_iR1 (by rfl) T.b_range (d_cons (d_callB (cr_max2 rfl) (rc2 rb_I0) (by rfl) T.b_max (by decide +kernel) (d_cons d_int (d_cons (d_callB cr_len rc_len (by rfl) T.b_len (by decide +kernel) (d_cons (d_var (i := 1) (pv 1)) d_nil)) d_nil))) d_nil)) (d_gN (i := 2) (by rfl) (pg_name (i := 2) sc_law.nd rfl (by first | exact Or.inl rfl | exact Or.inr rfl))) (d_seq (d_set (i := 3) (by rfl) sc_law.nd rfl (by first | exact Or.inl rfl | exact Or.inr rfl) (d_callG0 (ok_law_box T) hG (hr.mono (by decide)) (by rfl) T.m_law_box T.F_law_box.kp T.B_law_box .nil (d_cons (d_var (i := 1) (pv 1)) (d_cons (d_var (i := 2) (pv 2)) d_nil))))
      (d_seq (d_set (i := 4) (by rfl) sc_law.nd rfl (by first | exact Or.inl rfl | exact Or.inr rfl) (d_frz (d_callG0 (ok_law_pieces T) hG (hr.mono (by decide)) (by rfl) T.m_law_pieces T.F_law_pieces.kp T.B_law_pieces .nil (d_lend (i := 3) (pv 3) (d_cons d_int (d_cons (d_if (d_tcmp (op_eqX hr.units) rb_eqX (d_callG0 (ok_law_take T) hG (hr.mono (by decide)) (by rfl) T.m_law_take T.F_law_take.kp T.B_law_take .nil (d_lend (i := 3) (pv 3) (d_cons d_int d_nil))) d_int (nomark _)) d_int d_int) d_nil))))))
      (d_seq (d_set (i := 5) (by rfl) sc_law.nd rfl (by first | exact Or.inl rfl | exact Or.inr rfl) (d_frz (d_bin op_addA rb_add d_int (d_callG0 (ok_law_take T) hG (hr.mono (by decide)) (by rfl) T.m_law_take T.F_law_take.kp T.B_law_take .nil (d_lend (i := 3) (pv 3) (d_cons d_int d_nil))))))
      (d_seq (d_fzS (d_setLc (own := [("one", 12)]) (i := 6) (fun j => j == 12) (by rfl) (own_1) rfl sc_law.nd rfl rfl (sw_true rfl rfl rfl (by decide +kernel)) (d_iL (d_var (i := 4) (pv 4))) (blkOk_by (own := [("one", 12)]) (N := N_law) (sc := defScope s_law) (by decide +kernel)) (fun _ _ _ _ _ => (d_gN (i := 12) (by rfl) (pg_name (i := 12) sc_law.nd rfl (by first | exact Or.inl rfl | exact Or.inr rfl)))) (fun _ _ _ _ _ => d_tnil) (fun _ _ _ _ _ => (d_bin op_mulY rb_mulX (d_var (i := 5) (pv 5)) (d_callG0 (ok_law_take T) hG (hr.mono (by decide)) (by rfl) T.m_law_take T.F_law_take.kp T.B_law_take .nil (d_lend (i := 3) (pv 3) (d_cons (d_bin op_addA rb_add d_int (d_bin op_fdiv rb_I d_int (d_var (i := 5) (pv 5)))) d_nil)))))))
      (d_seq (d_par2 (i := 7) (j := 8) (by rfl) (by rfl) rfl sc_law.nd rfl rfl (by decide) rfl rfl (d_cons (d_frz (d_callTy (cr_str hG hr.units) rc_str (by rfl) T.b_str (by decide +kernel) (d_cons (d_lst (d_cons (d_var (i := 4) (pv 4)) (d_cons (d_var (i := 6) (pv 6)) d_nil))) d_nil))) (d_cons (d_frz (d_callG0 (ok_law_levels_due T) hG (hr.mono (by decide)) (by rfl) T.m_law_levels_due T.F_law_levels_due.kp T.B_law_levels_due .nil (d_cons (d_var (i := 4) (pv 4)) (d_cons (d_var (i := 6) (pv 6)) d_nil)))) d_nil)))
      (d_last (d_for PassesOwn.never rfl (d_iR1 (by rfl) T.b_range (d_cons d_int d_nil)) (d_gN (i := 9) (by rfl) (pg_name (i := 9) sc_law.nd rfl (by first | exact Or.inl rfl | exact Or.inr rfl))) (d_seq (d_set (i := 10) (by rfl) sc_law.nd rfl (by first | exact Or.inl rfl | exact Or.inr rfl) (d_callG0 (ok_by_levels T) hG (hr.mono (by decide)) (by rfl) T.m_by_levels T.F_by_levels.kp T.B_by_levels .nil (d_cons (d_var (i := 4) (pv 4)) (d_cons (d_var (i := 6) (pv 6)) d_nil))))
      (d_seq (d_set (i := 11) (by rfl) sc_law.nd rfl (by first | exact Or.inl rfl | exact Or.inr rfl) (d_frz (d_rd (d_callG0 (ok_count_of T) hG (hr.mono (by decide)) (by rfl) T.m_count_of T.F_count_of.kp T.B_count_of .nil (d_cons (d_var (i := 4) (pv 4)) (d_cons (d_var (i := 10) (pv 10)) d_nil))))))
      (d_seq (d_ifS (d_w (d_or (d_rdB (d_tcmp (op_neX hr.units) rb_neX (d_var (i := 10) (pv 10)) (d_var (i := 8) (pv 8)) (nomark _))) (d_or (d_not (d_tval (d_rd (d_isTy (n := .list) (by rfl) T.b_isinstance (d_var (i := 10) (pv 10)) (by rfl) T.b_list (by decide +kernel))))) (d_or1 (d_tcmp (op_neX hr.units) rb_neX (d_callTy (cr_str hG hr.units) rc_str (by rfl) T.b_str (by decide +kernel) (d_cons (d_lst (d_cons (d_var (i := 4) (pv 4)) (d_cons (d_var (i := 6) (pv 6)) d_nil))) d_nil)) (d_var (i := 7) (pv 7)) (nomark _)))))) (d_last (d_ret d_bl)) d_skip)
      (d_seq (d_ifS (d_w (d_or (d_tcmp (op_neX hr.units) rb_neX (d_var (i := 11) (pv 11)) (d_callG0 (ok_law_bound T) hG (hr.mono (by decide)) (by rfl) T.m_law_bound T.F_law_bound.kp T.B_law_bound .nil (d_cons (d_var (i := 4) (pv 4)) (d_cons (d_var (i := 6) (pv 6)) d_nil))) (nomark _)) (d_or (d_tcmp (op_neX hr.units) rb_neX (d_callG0 (ok_bound_of T) hG (hr.mono (by decide)) (by rfl) T.m_bound_of T.F_bound_of.kp T.B_bound_of .nil (d_cons (d_var (i := 4) (pv 4)) (d_cons (d_var (i := 6) (pv 6)) d_nil))) (d_var (i := 11) (pv 11)) (nomark _)) (d_or1 (d_tval (d_isTy (n := .bool) (by rfl) T.b_isinstance (d_var (i := 11) (pv 11)) (by rfl) T.b_bool (by decide +kernel))))))) (d_last (d_ret d_bl)) d_skip)
      (d_last (d_drop (d_meth (i := 10) rm_append PySem.F.plainAttrs_list PySem.F.slot_list_append PySem.F.type_list_append mt_append (pv 10) (d_cons d_int d_nil))))))))))))))))
      (d_last (d_ret d_bl))))) (fun ts k e hl h => val_law ts k e h)
theorem all_mk {w : World} {K : PySem.W.Frag} {h : Heap} {mg : Str → Option Value} {fa : Addr} (X : K.In h) (G : h.Ns mainGlobals mg) (hfa : mg "law" = some (.ref fa))
    {f_count_of : Addr} {od_count_of an_count_of : Option Addr} {sl_count_of : Array (Option Value)} {oc_count_of kV_count_of dc_count_of pm_count_of cd_count_of ct_count_of : Value}
    {f_chosen_order : Addr} {od_chosen_order an_chosen_order : Option Addr} {sl_chosen_order : Array (Option Value)} {oc_chosen_order kV_chosen_order dc_chosen_order pm_chosen_order cd_chosen_order ct_chosen_order : Value}
    {f_strips_of : Addr} {od_strips_of an_strips_of : Option Addr} {sl_strips_of : Array (Option Value)} {oc_strips_of kV_strips_of dc_strips_of pm_strips_of cd_strips_of ct_strips_of : Value}
    {f_by_levels : Addr} {od_by_levels an_by_levels : Option Addr} {sl_by_levels : Array (Option Value)} {oc_by_levels kV_by_levels dc_by_levels pm_by_levels cd_by_levels ct_by_levels : Value}
    {f_greatest_crowd : Addr} {od_greatest_crowd an_greatest_crowd : Option Addr} {sl_greatest_crowd : Array (Option Value)} {oc_greatest_crowd kV_greatest_crowd dc_greatest_crowd pm_greatest_crowd cd_greatest_crowd ct_greatest_crowd : Value}
    {f_bound_of : Addr} {od_bound_of an_bound_of : Option Addr} {sl_bound_of : Array (Option Value)} {oc_bound_of kV_bound_of dc_bound_of pm_bound_of cd_bound_of ct_bound_of : Value}
    {f_law_box : Addr} {od_law_box an_law_box : Option Addr} {sl_law_box : Array (Option Value)} {oc_law_box kV_law_box dc_law_box pm_law_box cd_law_box ct_law_box : Value}
    {f_law_take : Addr} {od_law_take an_law_take : Option Addr} {sl_law_take : Array (Option Value)} {oc_law_take kV_law_take dc_law_take pm_law_take cd_law_take ct_law_take : Value}
    {f_law_folded : Addr} {od_law_folded an_law_folded : Option Addr} {sl_law_folded : Array (Option Value)} {oc_law_folded kV_law_folded dc_law_folded pm_law_folded cd_law_folded ct_law_folded : Value}
    {f_law_word : Addr} {od_law_word an_law_word : Option Addr} {sl_law_word : Array (Option Value)} {oc_law_word kV_law_word dc_law_word pm_law_word cd_law_word ct_law_word : Value}
    {f_law_names : Addr} {od_law_names an_law_names : Option Addr} {sl_law_names : Array (Option Value)} {oc_law_names kV_law_names dc_law_names pm_law_names cd_law_names ct_law_names : Value}
    {f_law_pieces : Addr} {od_law_pieces an_law_pieces : Option Addr} {sl_law_pieces : Array (Option Value)} {oc_law_pieces kV_law_pieces dc_law_pieces pm_law_pieces cd_law_pieces ct_law_pieces : Value}
    {f_law_levels_due : Addr} {od_law_levels_due an_law_levels_due : Option Addr} {sl_law_levels_due : Array (Option Value)} {oc_law_levels_due kV_law_levels_due dc_law_levels_due pm_law_levels_due cd_law_levels_due ct_law_levels_due : Value}
    {f_law_bound : Addr} {od_law_bound an_law_bound : Option Addr} {sl_law_bound : Array (Option Value)} {oc_law_bound kV_law_bound dc_law_bound pm_law_bound cd_law_bound ct_law_bound : Value}
    {f_law : Addr} {od_law an_law : Option Addr} {sl_law : Array (Option Value)} {oc_law kV_law dc_law pm_law cd_law ct_law : Value}
    {u_WIDEST : Value} (g_WIDEST : PySem.W.nsIn K mainGlobals "WIDEST" = some (some u_WIDEST)) (r_WIDEST : RelV (.int 3) u_WIDEST)
    (a_count_of : PySem.W.nsIn K mainGlobals "count_of" = some (some (.ref f_count_of))) (l_count_of : K.lookup f_count_of = some ⟨oc_count_of, od_count_of, .func (PySem.W.fnOf "count_of" "count_of" (defArgs s_count_of) (defBody s_count_of) (defScope s_count_of) .none kV_count_of dc_count_of pm_count_of an_count_of cd_count_of ct_count_of), sl_count_of⟩) (c_count_of : PySem.W.codeIn K cd_count_of "count_of" = true) (k_count_of : PySem.W.keepIn K (.ref f_count_of) = true)
    (a_chosen_order : PySem.W.nsIn K mainGlobals "chosen_order" = some (some (.ref f_chosen_order))) (l_chosen_order : K.lookup f_chosen_order = some ⟨oc_chosen_order, od_chosen_order, .func (PySem.W.fnOf "chosen_order" "chosen_order" (defArgs s_chosen_order) (defBody s_chosen_order) (defScope s_chosen_order) .none kV_chosen_order dc_chosen_order pm_chosen_order an_chosen_order cd_chosen_order ct_chosen_order), sl_chosen_order⟩) (c_chosen_order : PySem.W.codeIn K cd_chosen_order "chosen_order" = true) (k_chosen_order : PySem.W.keepIn K (.ref f_chosen_order) = true)
    (a_strips_of : PySem.W.nsIn K mainGlobals "strips_of" = some (some (.ref f_strips_of))) (l_strips_of : K.lookup f_strips_of = some ⟨oc_strips_of, od_strips_of, .func (PySem.W.fnOf "strips_of" "strips_of" (defArgs s_strips_of) (defBody s_strips_of) (defScope s_strips_of) .none kV_strips_of dc_strips_of pm_strips_of an_strips_of cd_strips_of ct_strips_of), sl_strips_of⟩) (c_strips_of : PySem.W.codeIn K cd_strips_of "strips_of" = true) (k_strips_of : PySem.W.keepIn K (.ref f_strips_of) = true)
    (a_by_levels : PySem.W.nsIn K mainGlobals "by_levels" = some (some (.ref f_by_levels))) (l_by_levels : K.lookup f_by_levels = some ⟨oc_by_levels, od_by_levels, .func (PySem.W.fnOf "by_levels" "by_levels" (defArgs s_by_levels) (defBody s_by_levels) (defScope s_by_levels) .none kV_by_levels dc_by_levels pm_by_levels an_by_levels cd_by_levels ct_by_levels), sl_by_levels⟩) (c_by_levels : PySem.W.codeIn K cd_by_levels "by_levels" = true) (k_by_levels : PySem.W.keepIn K (.ref f_by_levels) = true)
    (a_greatest_crowd : PySem.W.nsIn K mainGlobals "greatest_crowd" = some (some (.ref f_greatest_crowd))) (l_greatest_crowd : K.lookup f_greatest_crowd = some ⟨oc_greatest_crowd, od_greatest_crowd, .func (PySem.W.fnOf "greatest_crowd" "greatest_crowd" (defArgs s_greatest_crowd) (defBody s_greatest_crowd) (defScope s_greatest_crowd) .none kV_greatest_crowd dc_greatest_crowd pm_greatest_crowd an_greatest_crowd cd_greatest_crowd ct_greatest_crowd), sl_greatest_crowd⟩) (c_greatest_crowd : PySem.W.codeIn K cd_greatest_crowd "greatest_crowd" = true) (k_greatest_crowd : PySem.W.keepIn K (.ref f_greatest_crowd) = true)
    (a_bound_of : PySem.W.nsIn K mainGlobals "bound_of" = some (some (.ref f_bound_of))) (l_bound_of : K.lookup f_bound_of = some ⟨oc_bound_of, od_bound_of, .func (PySem.W.fnOf "bound_of" "bound_of" (defArgs s_bound_of) (defBody s_bound_of) (defScope s_bound_of) .none kV_bound_of dc_bound_of pm_bound_of an_bound_of cd_bound_of ct_bound_of), sl_bound_of⟩) (c_bound_of : PySem.W.codeIn K cd_bound_of "bound_of" = true) (k_bound_of : PySem.W.keepIn K (.ref f_bound_of) = true)
    (a_law_box : PySem.W.nsIn K mainGlobals "_law_box" = some (some (.ref f_law_box))) (l_law_box : K.lookup f_law_box = some ⟨oc_law_box, od_law_box, .func (PySem.W.fnOf "_law_box" "_law_box" (defArgs s_law_box) (defBody s_law_box) (defScope s_law_box) .none kV_law_box dc_law_box pm_law_box an_law_box cd_law_box ct_law_box), sl_law_box⟩) (c_law_box : PySem.W.codeIn K cd_law_box "_law_box" = true) (k_law_box : PySem.W.keepIn K (.ref f_law_box) = true)
    (a_law_take : PySem.W.nsIn K mainGlobals "_law_take" = some (some (.ref f_law_take))) (l_law_take : K.lookup f_law_take = some ⟨oc_law_take, od_law_take, .func (PySem.W.fnOf "_law_take" "_law_take" (defArgs s_law_take) (defBody s_law_take) (defScope s_law_take) .none kV_law_take dc_law_take pm_law_take an_law_take cd_law_take ct_law_take), sl_law_take⟩) (c_law_take : PySem.W.codeIn K cd_law_take "_law_take" = true) (k_law_take : PySem.W.keepIn K (.ref f_law_take) = true)
    (a_law_folded : PySem.W.nsIn K mainGlobals "_law_folded" = some (some (.ref f_law_folded))) (l_law_folded : K.lookup f_law_folded = some ⟨oc_law_folded, od_law_folded, .func (PySem.W.fnOf "_law_folded" "_law_folded" (defArgs s_law_folded) (defBody s_law_folded) (defScope s_law_folded) .none kV_law_folded dc_law_folded pm_law_folded an_law_folded cd_law_folded ct_law_folded), sl_law_folded⟩) (c_law_folded : PySem.W.codeIn K cd_law_folded "_law_folded" = true) (k_law_folded : PySem.W.keepIn K (.ref f_law_folded) = true)
    (a_law_word : PySem.W.nsIn K mainGlobals "_law_word" = some (some (.ref f_law_word))) (l_law_word : K.lookup f_law_word = some ⟨oc_law_word, od_law_word, .func (PySem.W.fnOf "_law_word" "_law_word" (defArgs s_law_word) (defBody s_law_word) (defScope s_law_word) .none kV_law_word dc_law_word pm_law_word an_law_word cd_law_word ct_law_word), sl_law_word⟩) (c_law_word : PySem.W.codeIn K cd_law_word "_law_word" = true) (k_law_word : PySem.W.keepIn K (.ref f_law_word) = true)
    (a_law_names : PySem.W.nsIn K mainGlobals "_law_names" = some (some (.ref f_law_names))) (l_law_names : K.lookup f_law_names = some ⟨oc_law_names, od_law_names, .func (PySem.W.fnOf "_law_names" "_law_names" (defArgs s_law_names) (defBody s_law_names) (defScope s_law_names) .none kV_law_names dc_law_names pm_law_names an_law_names cd_law_names ct_law_names), sl_law_names⟩) (c_law_names : PySem.W.codeIn K cd_law_names "_law_names" = true) (k_law_names : PySem.W.keepIn K (.ref f_law_names) = true)
    (a_law_pieces : PySem.W.nsIn K mainGlobals "_law_pieces" = some (some (.ref f_law_pieces))) (l_law_pieces : K.lookup f_law_pieces = some ⟨oc_law_pieces, od_law_pieces, .func (PySem.W.fnOf "_law_pieces" "_law_pieces" (defArgs s_law_pieces) (defBody s_law_pieces) (defScope s_law_pieces) .none kV_law_pieces dc_law_pieces pm_law_pieces an_law_pieces cd_law_pieces ct_law_pieces), sl_law_pieces⟩) (c_law_pieces : PySem.W.codeIn K cd_law_pieces "_law_pieces" = true) (k_law_pieces : PySem.W.keepIn K (.ref f_law_pieces) = true)
    (a_law_levels_due : PySem.W.nsIn K mainGlobals "_law_levels_due" = some (some (.ref f_law_levels_due))) (l_law_levels_due : K.lookup f_law_levels_due = some ⟨oc_law_levels_due, od_law_levels_due, .func (PySem.W.fnOf "_law_levels_due" "_law_levels_due" (defArgs s_law_levels_due) (defBody s_law_levels_due) (defScope s_law_levels_due) .none kV_law_levels_due dc_law_levels_due pm_law_levels_due an_law_levels_due cd_law_levels_due ct_law_levels_due), sl_law_levels_due⟩) (c_law_levels_due : PySem.W.codeIn K cd_law_levels_due "_law_levels_due" = true) (k_law_levels_due : PySem.W.keepIn K (.ref f_law_levels_due) = true)
    (a_law_bound : PySem.W.nsIn K mainGlobals "_law_bound" = some (some (.ref f_law_bound))) (l_law_bound : K.lookup f_law_bound = some ⟨oc_law_bound, od_law_bound, .func (PySem.W.fnOf "_law_bound" "_law_bound" (defArgs s_law_bound) (defBody s_law_bound) (defScope s_law_bound) .none kV_law_bound dc_law_bound pm_law_bound an_law_bound cd_law_bound ct_law_bound), sl_law_bound⟩) (c_law_bound : PySem.W.codeIn K cd_law_bound "_law_bound" = true) (k_law_bound : PySem.W.keepIn K (.ref f_law_bound) = true)
    (a_law : PySem.W.nsIn K mainGlobals "law" = some (some (.ref f_law))) (l_law : K.lookup f_law = some ⟨oc_law, od_law, .func (PySem.W.fnOf "law" "law" (defArgs s_law) (defBody s_law) (defScope s_law) .none kV_law dc_law pm_law an_law cd_law ct_law), sl_law⟩) (c_law : PySem.W.codeIn K cd_law "law" = true) (k_law : PySem.W.keepIn K (.ref f_law) = true)
    (z_abs : PySem.W.nsIn K mainGlobals "abs" = some none)
    (z_bool : PySem.W.nsIn K mainGlobals "bool" = some none)
    (z_dict : PySem.W.nsIn K mainGlobals "dict" = some none)
    (z_divmod : PySem.W.nsIn K mainGlobals "divmod" = some none)
    (z_enumerate : PySem.W.nsIn K mainGlobals "enumerate" = some none)
    (z_int : PySem.W.nsIn K mainGlobals "int" = some none)
    (z_isinstance : PySem.W.nsIn K mainGlobals "isinstance" = some none)
    (z_len : PySem.W.nsIn K mainGlobals "len" = some none)
    (z_list : PySem.W.nsIn K mainGlobals "list" = some none)
    (z_max : PySem.W.nsIn K mainGlobals "max" = some none)
    (z_min : PySem.W.nsIn K mainGlobals "min" = some none)
    (z_range : PySem.W.nsIn K mainGlobals "range" = some none)
    (z_set : PySem.W.nsIn K mainGlobals "set" = some none)
    (z_sorted : PySem.W.nsIn K mainGlobals "sorted" = some none)
    (z_str : PySem.W.nsIn K mainGlobals "str" = some none)
    (z_zip : PySem.W.nsIn K mainGlobals "zip" = some none)
    : ∃ fd : FuncData, (∀ (s : Shared) (v : Value), BindsTo s fd ⟨[v], []⟩ [("script", v)]) ∧ ∀ base : Heap, K.In base → base.Ns mainGlobals mg → FnG PySem.Challenge.rw_wirechannel_k39_levels_far_apart.prog w K mg base CX0 5 fa fd ["script"] (spT K 1 phi_law) := by
  have e := hfa.symm.trans (PySem.W.mg_of X G a_law)
  cases e
  have F_count_of := fun_mk (st := s_count_of) l_count_of c_count_of k_count_of
  have F_chosen_order := fun_mk (st := s_chosen_order) l_chosen_order c_chosen_order k_chosen_order
  have F_strips_of := fun_mk (st := s_strips_of) l_strips_of c_strips_of k_strips_of
  have F_by_levels := fun_mk (st := s_by_levels) l_by_levels c_by_levels k_by_levels
  have F_greatest_crowd := fun_mk (st := s_greatest_crowd) l_greatest_crowd c_greatest_crowd k_greatest_crowd
  have F_bound_of := fun_mk (st := s_bound_of) l_bound_of c_bound_of k_bound_of
  have F_law_box := fun_mk (st := s_law_box) l_law_box c_law_box k_law_box
  have F_law_take := fun_mk (st := s_law_take) l_law_take c_law_take k_law_take
  have F_law_folded := fun_mk (st := s_law_folded) l_law_folded c_law_folded k_law_folded
  have F_law_word := fun_mk (st := s_law_word) l_law_word c_law_word k_law_word
  have F_law_names := fun_mk (st := s_law_names) l_law_names c_law_names k_law_names
  have F_law_pieces := fun_mk (st := s_law_pieces) l_law_pieces c_law_pieces k_law_pieces
  have F_law_levels_due := fun_mk (st := s_law_levels_due) l_law_levels_due c_law_levels_due k_law_levels_due
  have F_law_bound := fun_mk (st := s_law_bound) l_law_bound c_law_bound k_law_bound
  have F_law := fun_mk (st := s_law) l_law c_law k_law
  refine ⟨_, fun s v => .of_eq rfl, fun base _ _ => ok_law (K := K) (mg := mg) (base := base) (w := w) {
    b_abs := PySem.W.mg_none_of X G z_abs
    b_bool := PySem.W.mg_none_of X G z_bool
    b_dict := PySem.W.mg_none_of X G z_dict
    b_divmod := PySem.W.mg_none_of X G z_divmod
    b_enumerate := PySem.W.mg_none_of X G z_enumerate
    b_int := PySem.W.mg_none_of X G z_int
    b_isinstance := PySem.W.mg_none_of X G z_isinstance
    b_len := PySem.W.mg_none_of X G z_len
    b_list := PySem.W.mg_none_of X G z_list
    b_max := PySem.W.mg_none_of X G z_max
    b_min := PySem.W.mg_none_of X G z_min
    b_range := PySem.W.mg_none_of X G z_range
    b_set := PySem.W.mg_none_of X G z_set
    b_sorted := PySem.W.mg_none_of X G z_sorted
    b_str := PySem.W.mg_none_of X G z_str
    b_zip := PySem.W.mg_none_of X G z_zip
    u_WIDEST := u_WIDEST, g_WIDEST := PySem.W.mg_of X G g_WIDEST, r_WIDEST := r_WIDEST
    a_count_of := f_count_of, fd_count_of := _, F_count_of := F_count_of, m_count_of := PySem.W.mg_of X G a_count_of, B_count_of := F_count_of.binds (ps := ["pieces", "tracks"]) fun _ _ _ _ _ _ us hl => match us, hl with | [_, _], _ => rfl
    a_chosen_order := f_chosen_order, fd_chosen_order := _, F_chosen_order := F_chosen_order, m_chosen_order := PySem.W.mg_of X G a_chosen_order, B_chosen_order := F_chosen_order.binds (ps := ["pieces", "levels", "level", "width"]) fun _ _ _ _ _ _ us hl => match us, hl with | [_, _, _, _], _ => rfl
    a_strips_of := f_strips_of, fd_strips_of := _, F_strips_of := F_strips_of, m_strips_of := PySem.W.mg_of X G a_strips_of, B_strips_of := F_strips_of.binds (ps := ["order"]) fun _ _ _ _ _ _ us hl => match us, hl with | [_], _ => rfl
    a_by_levels := f_by_levels, fd_by_levels := _, F_by_levels := F_by_levels, m_by_levels := PySem.W.mg_of X G a_by_levels, B_by_levels := F_by_levels.binds (ps := ["pieces", "levels"]) fun _ _ _ _ _ _ us hl => match us, hl with | [_, _], _ => rfl
    a_greatest_crowd := f_greatest_crowd, fd_greatest_crowd := _, F_greatest_crowd := F_greatest_crowd, m_greatest_crowd := PySem.W.mg_of X G a_greatest_crowd, B_greatest_crowd := F_greatest_crowd.binds (ps := ["order"]) fun _ _ _ _ _ _ us hl => match us, hl with | [_], _ => rfl
    a_bound_of := f_bound_of, fd_bound_of := _, F_bound_of := F_bound_of, m_bound_of := PySem.W.mg_of X G a_bound_of, B_bound_of := F_bound_of.binds (ps := ["pieces", "levels"]) fun _ _ _ _ _ _ us hl => match us, hl with | [_, _], _ => rfl
    a_law_box := f_law_box, fd_law_box := _, F_law_box := F_law_box, m_law_box := PySem.W.mg_of X G a_law_box, B_law_box := F_law_box.binds (ps := ["script", "k"]) fun _ _ _ _ _ _ us hl => match us, hl with | [_, _], _ => rfl
    a_law_take := f_law_take, fd_law_take := _, F_law_take := F_law_take, m_law_take := PySem.W.mg_of X G a_law_take, B_law_take := F_law_take.binds (ps := ["box", "size"]) fun _ _ _ _ _ _ us hl => match us, hl with | [_, _], _ => rfl
    a_law_folded := f_law_folded, fd_law_folded := _, F_law_folded := F_law_folded, m_law_folded := PySem.W.mg_of X G a_law_folded, B_law_folded := F_law_folded.binds (ps := ["script", "size"]) fun _ _ _ _ _ _ us hl => match us, hl with | [_, _], _ => rfl
    a_law_word := f_law_word, fd_law_word := _, F_law_word := F_law_word, m_law_word := PySem.W.mg_of X G a_law_word, B_law_word := F_law_word.binds (ps := ["box", "size"]) fun _ _ _ _ _ _ us hl => match us, hl with | [_, _], _ => rfl
    a_law_names := f_law_names, fd_law_names := _, F_law_names := F_law_names, m_law_names := PySem.W.mg_of X G a_law_names, B_law_names := F_law_names.binds (ps := ["box", "many"]) fun _ _ _ _ _ _ us hl => match us, hl with | [_, _], _ => rfl
    a_law_pieces := f_law_pieces, fd_law_pieces := _, F_law_pieces := F_law_pieces, m_law_pieces := PySem.W.mg_of X G a_law_pieces, B_law_pieces := F_law_pieces.binds (ps := ["box", "least", "most"]) fun _ _ _ _ _ _ us hl => match us, hl with | [_, _, _], _ => rfl
    a_law_levels_due := f_law_levels_due, fd_law_levels_due := _, F_law_levels_due := F_law_levels_due, m_law_levels_due := PySem.W.mg_of X G a_law_levels_due, B_law_levels_due := F_law_levels_due.binds (ps := ["pieces", "levels"]) fun _ _ _ _ _ _ us hl => match us, hl with | [_, _], _ => rfl
    a_law_bound := f_law_bound, fd_law_bound := _, F_law_bound := F_law_bound, m_law_bound := PySem.W.mg_of X G a_law_bound, B_law_bound := F_law_bound.binds (ps := ["pieces", "levels"]) fun _ _ _ _ _ _ us hl => match us, hl with | [_, _], _ => rfl
    a_law := fa, fd_law := _, F_law := F_law, m_law := PySem.W.mg_of X G a_law, B_law := F_law.binds (ps := ["script"]) fun _ _ _ _ _ _ us hl => match us, hl with | [_], _ => rfl
    }⟩
end WCk
open PySem PySem.W PyProof.Rows
set_option maxHeartbeats 0 in
theorem PySem.Challenge.cw_wirechannel_k39_levels_far_apart_holds : PySem.Challenge.rw_wirechannel_k39_levels_far_apart.Holds := by
  w_on; o_law; k_head; (case hw => w_witness2)
  k_fill
  refine WC.top_ofG (l := PySem.Challenge.rw_wirechannel_k39_levels_far_apart) (n := 63) (k := 5) (x := "script") (φ := WCk.phi_law) rfl (by decide) rfl ⟨rfl, by decide, by decide⟩ (fun w h Y => PySem.W.kIn_of Y) ?F (fun ns hl => WCk.law_phi ns hl)
  case F =>
    intro w mg fa h KX G hmg
    refine' WCk.all_mk (w := w) KX G hmg ?g_WIDEST ?r_WIDEST ?a_count_of ?l_count_of ?c_count_of ?k_count_of ?a_chosen_order ?l_chosen_order ?c_chosen_order ?k_chosen_order ?a_strips_of ?l_strips_of ?c_strips_of ?k_strips_of ?a_by_levels ?l_by_levels ?c_by_levels ?k_by_levels ?a_greatest_crowd ?l_greatest_crowd ?c_greatest_crowd ?k_greatest_crowd ?a_bound_of ?l_bound_of ?c_bound_of ?k_bound_of ?a_law_box ?l_law_box ?c_law_box ?k_law_box ?a_law_take ?l_law_take ?c_law_take ?k_law_take ?a_law_folded ?l_law_folded ?c_law_folded ?k_law_folded ?a_law_word ?l_law_word ?c_law_word ?k_law_word ?a_law_names ?l_law_names ?c_law_names ?k_law_names ?a_law_pieces ?l_law_pieces ?c_law_pieces ?k_law_pieces ?a_law_levels_due ?l_law_levels_due ?c_law_levels_due ?k_law_levels_due ?a_law_bound ?l_law_bound ?c_law_bound ?k_law_bound ?a_law ?l_law ?c_law ?k_law ?z_abs ?z_bool ?z_dict ?z_divmod ?z_enumerate ?z_int ?z_isinstance ?z_len ?z_list ?z_max ?z_min ?z_range ?z_set ?z_sorted ?z_str ?z_zip
    (case g_WIDEST => k_is)
    (case r_WIDEST => exact ⟨_, rfl⟩)
    (case a_count_of => k_is)
    (case l_count_of => k_is)
    (case c_count_of => k_is)
    (case k_count_of => k_is)
    (case a_chosen_order => k_is)
    (case l_chosen_order => k_is)
    (case c_chosen_order => k_is)
    (case k_chosen_order => k_is)
    (case a_strips_of => k_is)
    (case l_strips_of => k_is)
    (case c_strips_of => k_is)
    (case k_strips_of => k_is)
    (case a_by_levels => k_is)
    (case l_by_levels => k_is)
    (case c_by_levels => k_is)
    (case k_by_levels => k_is)
    (case a_greatest_crowd => k_is)
    (case l_greatest_crowd => k_is)
    (case c_greatest_crowd => k_is)
    (case k_greatest_crowd => k_is)
    (case a_bound_of => k_is)
    (case l_bound_of => k_is)
    (case c_bound_of => k_is)
    (case k_bound_of => k_is)
    (case a_law_box => k_is)
    (case l_law_box => k_is)
    (case c_law_box => k_is)
    (case k_law_box => k_is)
    (case a_law_take => k_is)
    (case l_law_take => k_is)
    (case c_law_take => k_is)
    (case k_law_take => k_is)
    (case a_law_folded => k_is)
    (case l_law_folded => k_is)
    (case c_law_folded => k_is)
    (case k_law_folded => k_is)
    (case a_law_word => k_is)
    (case l_law_word => k_is)
    (case c_law_word => k_is)
    (case k_law_word => k_is)
    (case a_law_names => k_is)
    (case l_law_names => k_is)
    (case c_law_names => k_is)
    (case k_law_names => k_is)
    (case a_law_pieces => k_is)
    (case l_law_pieces => k_is)
    (case c_law_pieces => k_is)
    (case k_law_pieces => k_is)
    (case a_law_levels_due => k_is)
    (case l_law_levels_due => k_is)
    (case c_law_levels_due => k_is)
    (case k_law_levels_due => k_is)
    (case a_law_bound => k_is)
    (case l_law_bound => k_is)
    (case c_law_bound => k_is)
    (case k_law_bound => k_is)
    (case a_law => k_is)
    (case l_law => k_is)
    (case c_law => k_is)
    (case k_law => k_is)
    (case z_abs => k_is)
    (case z_bool => k_is)
    (case z_dict => k_is)
    (case z_divmod => k_is)
    (case z_enumerate => k_is)
    (case z_int => k_is)
    (case z_isinstance => k_is)
    (case z_len => k_is)
    (case z_list => k_is)
    (case z_max => k_is)
    (case z_min => k_is)
    (case z_range => k_is)
    (case z_set => k_is)
    (case z_sorted => k_is)
    (case z_str => k_is)
    (case z_zip => k_is)
