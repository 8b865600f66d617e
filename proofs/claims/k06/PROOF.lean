import PyProof.Rows.All
import HandS.Deep
import HandS.FStr
import HandS.Flow
import HandS.ForExc
import HandS.ForMost
import HandS.IsInst
import HandS.Style
import HandS.Walk
import HandS.Wide
import HandS.WideBits
import PySem.Challenge.RW_wirechannel_k06_longer_words
set_option Elab.async false
set_option linter.all false
set_option autoImplicit false
set_option maxRecDepth 100000
set_option maxHeartbeats 4000000
/-! WLa: values as trees, parts of heaps, worlds. -/
namespace WC
open PySem PySem.Spec PyProof.Rows L2

/-! ### assertions over a stable heap G and an owned part h -/
structure Asn where
  P : Hp → Hp → Prop
  mono : ∀ G G' h, Same G G' → P G h → P G' h
theorem Asn.ext' {A B : Asn} (h : ∀ G h, A.P G h ↔ B.P G h) : A = B := by
  cases A with
  | mk P m =>
    cases B with
    | mk P' m' =>
      have e : P = P' := by
        funext G x
        exact propext (h G x)
      subst e
      rfl
/-- h is h1 beside h2 -/
def Spl (h h1 h2 : Hp) : Prop := (∀ a, h1 a = none ∨ h2 a = none) ∧ ∀ a, h a = (h1 a).or (h2 a)
theorem Spl.symm {h h1 h2 : Hp} (s : Spl h h1 h2) : Spl h h2 h1 := ⟨fun a => (s.1 a).symm, fun a => by
  rw [s.2 a]
  rcases s.1 a with e | e <;> rw [e] <;> cases (h2 a) <;> first | rfl | (cases (h1 a) <;> rfl)⟩
theorem Spl.left {h h1 h2 : Hp} (s : Spl h h1 h2) {a : Addr} {o : HO} (e : h1 a = some o) : h a = some o := by
  rw [s.2 a, e]
  rfl
theorem Spl.right {h h1 h2 : Hp} (s : Spl h h1 h2) {a : Addr} {o : HO} (e : h2 a = some o) : h a = some o := s.symm.left e
def Hp0 : Hp := fun _ => none
theorem spl_empty (h : Hp) : Spl h Hp0 h := ⟨fun _ => .inl rfl, fun _ => rfl⟩
def uni (h1 h2 : Hp) : Hp := fun a => (h1 a).or (h2 a)
theorem spl_uni {h1 h2 : Hp} (d : ∀ a, h1 a = none ∨ h2 a = none) : Spl (uni h1 h2) h1 h2 := ⟨d, fun _ => rfl⟩
theorem Spl.eq {h h1 h2 : Hp} (s : Spl h h1 h2) : h = uni h1 h2 := funext s.2
theorem uni_none {h1 h2 : Hp} {a : Addr} : uni h1 h2 a = none ↔ h1 a = none ∧ h2 a = none := by
  unfold uni
  cases h1 a <;> simp
theorem Spl.none_iff {h h1 h2 : Hp} (s : Spl h h1 h2) {a : Addr} : h a = none ↔ h1 a = none ∧ h2 a = none := by
  rw [s.eq]
  exact uni_none
/-- reassociation -/
theorem Spl.assoc {h h12 h1 h2 h3 : Hp} (s : Spl h h12 h3) (t : Spl h12 h1 h2) : ∃ h23, Spl h h1 h23 ∧ Spl h23 h2 h3 := by
  refine ⟨uni h2 h3, ⟨fun a => ?_, fun a => ?_⟩, spl_uni fun a => ?_⟩
  · rcases s.1 a with e | e
    · exact .inl (t.none_iff.mp e).1
    · rcases t.1 a with q | q
      · exact .inl q
      · exact .inr (uni_none.mpr ⟨q, e⟩)
  · rw [s.2 a, t.2 a]
    unfold uni
    cases h1 a <;> rfl
  · rcases s.1 a with e | e
    · exact .inl (t.none_iff.mp e).2
    · exact .inr e

def star (A B : Asn) : Asn := ⟨fun G h => ∃ h1 h2, Spl h h1 h2 ∧ A.P G h1 ∧ B.P G h2, fun G G' h e ⟨h1, h2, s, a, b⟩ => ⟨h1, h2, s, A.mono _ _ _ e a, B.mono _ _ _ e b⟩⟩
instance : HSMul Asn Asn Asn := ⟨star⟩
def emp : Asn := ⟨fun _ h => h = Hp0, fun _ _ _ _ e => e⟩
def pu (φ : Prop) : Asn := ⟨fun _ h => h = Hp0 ∧ φ, fun _ _ _ _ e => e⟩
def fal : Asn := ⟨fun _ _ => False, fun _ _ _ _ e => e⟩
def pt (p : Addr) (o : HO) : Asn := ⟨fun _ h => h = upd Hp0 p o, fun _ _ _ _ e => e⟩
/-- a fact about the stable heap -/
def kn (φ : Hp → Prop) : Asn := ⟨fun G h => h = Hp0 ∧ ∀ G1, Same G G1 → φ G1, fun _ _ _ e ⟨a, f⟩ => ⟨a, fun G1 q => f G1 (e.trans q)⟩⟩
def ex {α : Type} (f : α → Asn) : Asn := ⟨fun G h => ∃ x, (f x).P G h, fun G G' h e ⟨x, p⟩ => ⟨x, (f x).mono _ _ _ e p⟩⟩

theorem star_comm (A B : Asn) : A • B = B • A := Asn.ext' fun G h => ⟨fun ⟨h1, h2, s, a, b⟩ => ⟨h2, h1, s.symm, b, a⟩, fun ⟨h1, h2, s, a, b⟩ => ⟨h2, h1, s.symm, b, a⟩⟩
theorem star_assoc (A B C : Asn) : (A • B) • C = A • B • C := Asn.ext' fun G h => by
  constructor
  · rintro ⟨h12, h3, s, ⟨h1, h2, t, a, b⟩, c⟩
    obtain ⟨h23, s', t'⟩ := s.assoc t
    exact ⟨h1, h23, s', a, h2, h3, t', b, c⟩
  · rintro ⟨h1, h23, s, a, h2, h3, t, b, c⟩
    obtain ⟨h12, s', t'⟩ := s.symm.assoc t.symm
    exact ⟨h12, h3, s'.symm, ⟨h1, h2, t'.symm, a, b⟩, c⟩
instance : Std.Commutative (α := Asn) (fun a b => a • b) := ⟨star_comm⟩
instance : Std.Associative (α := Asn) (fun a b => a • b) := ⟨star_assoc⟩
theorem emp_star (A : Asn) : emp • A = A := Asn.ext' fun G h => by
  constructor
  · rintro ⟨h1, h2, s, rfl, a⟩
    have e : h = h2 := by
      rw [s.eq]
      rfl
    rw [e]
    exact a
  · intro a
    exact ⟨Hp0, h, spl_empty h, rfl, a⟩
theorem star_emp (A : Asn) : A • emp = A := by
  rw [star_comm, emp_star]
theorem pu_true {φ : Prop} (h : φ) : pu φ = emp := Asn.ext' fun G x => ⟨fun ⟨a, _⟩ => a, fun a => ⟨a, h⟩⟩
theorem star_left (A B C : Asn) : A • B • C = B • A • C := by
  rw [← star_assoc, star_comm A B, star_assoc]
theorem kn_dup (φ : Hp → Prop) : kn φ = kn φ • kn φ := Asn.ext' fun G h => by
  constructor
  · rintro ⟨rfl, f⟩
    exact ⟨Hp0, Hp0, spl_empty _, ⟨rfl, f⟩, rfl, f⟩
  · rintro ⟨h1, h2, s, ⟨rfl, f⟩, rfl, _⟩
    refine ⟨?_, f⟩
    rw [s.eq]
    rfl
theorem pu_dup (φ : Prop) : pu φ = pu φ • pu φ := Asn.ext' fun G h => by
  constructor
  · rintro ⟨rfl, f⟩
    exact ⟨Hp0, Hp0, spl_empty _, ⟨rfl, f⟩, rfl, f⟩
  · rintro ⟨h1, h2, s, ⟨rfl, f⟩, rfl, _⟩
    refine ⟨?_, f⟩
    rw [s.eq]
    rfl
theorem ex_star {α : Type} (f : α → Asn) (A : Asn) : ex f • A = ex fun x => f x • A := Asn.ext' fun G h => by
  constructor
  · rintro ⟨h1, h2, s, ⟨x, p⟩, a⟩
    exact ⟨x, h1, h2, s, p, a⟩
  · rintro ⟨x, h1, h2, s, p, a⟩
    exact ⟨h1, h2, s, ⟨x, p⟩, a⟩

/-! ### worlds -/
/-- the abstract heap H holds a stable part, and beside it what A says -/
def Wd (H : Hp) (A : Asn) : Prop := ∃ G h, Same G H ∧ Same h H ∧ (∀ a, G a = none ∨ h a = none) ∧ (∀ a xs, h a ≠ some (.tup xs)) ∧ A.P G h
section
variable {H H' : Hp} {A B C R : Asn} {p : Addr} {o o' : HO} {xs vs : List V}
theorem Wd.imp (w : Wd H A) (h : ∀ G x, A.P G x → B.P G x) : Wd H B := by
  obtain ⟨G, x, a, b, c, d, e⟩ := w
  exact ⟨G, x, a, b, c, d, h G x e⟩
theorem Wd.eq (w : Wd H A) (e : A = B) : Wd H B := e ▸ w
theorem Wd.impL (w : Wd H (A • R)) (h : ∀ G x, A.P G x → B.P G x) : Wd H (B • R) := w.imp fun G x ⟨h1, h2, s, a, r⟩ => ⟨h1, h2, s, h G h1 a, r⟩
theorem Wd.same (w : Wd H A) (e : Same H H') : Wd H' A := by
  obtain ⟨G, x, a, b, c, d, q⟩ := w
  exact ⟨G, x, a.trans e, b.trans e, c, d, q⟩
theorem Wd.exL {α : Type} {f : α → Asn} (w : Wd H (ex f • R)) : ∃ x, Wd H (f x • R) := by
  rw [ex_star] at w
  obtain ⟨G, h, a, b, c, d, x, q⟩ := w
  exact ⟨x, G, h, a, b, c, d, q⟩
theorem Wd.exR {α : Type} {f : α → Asn} (x : α) (w : Wd H (f x • R)) : Wd H (ex f • R) := w.impL fun _ _ q => ⟨x, q⟩
theorem Wd.puL {φ : Prop} (w : Wd H (pu φ • R)) : φ ∧ Wd H R := by
  obtain ⟨G, h, a, b, c, d, h1, h2, s, ⟨rfl, f⟩, r⟩ := w
  have e : h = h2 := by
    rw [s.eq]
    rfl
  exact ⟨f, G, h, a, b, c, d, by rw [e]; exact r⟩
theorem Wd.puR {φ : Prop} (f : φ) (w : Wd H R) : Wd H (pu φ • R) := by
  rw [pu_true f, emp_star]
  exact w
theorem Wd.knL {φ : Hp → Prop} (w : Wd H (kn φ • R)) : φ H := by
  obtain ⟨G, h, a, b, c, d, h1, h2, s, ⟨_, f⟩, r⟩ := w
  exact f H a
theorem Wd.knD {φ : Hp → Prop} (w : Wd H (kn φ • R)) : Wd H R := by
  obtain ⟨G, h, a, b, c, d, h1, h2, s, ⟨rfl, f⟩, r⟩ := w
  have e : h = h2 := by
    rw [s.eq]
    rfl
  exact ⟨G, h, a, b, c, d, by rw [e]; exact r⟩
/-- a new owned object -/
theorem Wd.alloc (w : Wd H A) (n : H p = none) (nt : ∀ xs, o ≠ .tup xs) : Wd (upd H p o) (pt p o • A) := by
  obtain ⟨G, h, a, b, c, d, q⟩ := w
  have nG : G p = none := by
    cases e : G p with
    | none => rfl
    | some u =>
      rw [a p u e] at n
      cases n
  have nh : h p = none := by
    cases e : h p with
    | none => rfl
    | some u =>
      rw [b p u e] at n
      cases n
  have ne : ∀ {x u}, H x = some u → x ≠ p := fun e z => by
    rw [z, n] at e
    cases e
  refine ⟨G, uni (upd Hp0 p o) h, fun x u e => ?_, fun x u e => ?_, fun x => ?_, fun x xs e => ?_, _, h, spl_uni fun x => ?_, rfl, q⟩
  · rw [upd_ne (ne (a x u e))]
    exact a x u e
  · unfold uni at e
    by_cases hx : x = p
    · subst hx
      rw [upd_same] at e ⊢
      exact e
    · rw [upd_ne hx] at e ⊢
      exact b x u e
  · by_cases hx : x = p
    · subst hx
      exact .inl nG
    · rcases c x with z | z
      · exact .inl z
      · refine .inr ?_
        unfold uni
        rw [upd_ne hx]
        exact z
  · unfold uni at e
    by_cases hx : x = p
    · subst hx
      rw [upd_same] at e
      exact nt xs (Option.some.inj e)
    · rw [upd_ne hx] at e
      exact d x xs e
  · by_cases hx : x = p
    · subst hx
      exact .inr nh
    · refine .inl ?_
      rw [upd_ne hx]
      rfl
/-- a new stable object -/
theorem Wd.lay (w : Wd H A) (n : H p = none) : Wd (upd H p o) (kn (fun G => G p = some o) • A) := by
  obtain ⟨G, h, a, b, c, d, q⟩ := w
  have nG : G p = none := by
    cases e : G p with
    | none => rfl
    | some u =>
      rw [a p u e] at n
      cases n
  have nh : h p = none := by
    cases e : h p with
    | none => rfl
    | some u =>
      rw [b p u e] at n
      cases n
  have ne : ∀ {x u}, H x = some u → x ≠ p := fun e z => by
    rw [z, n] at e
    cases e
  have sG : Same G (upd G p o) := fun x u e => by
    rw [upd_ne (fun z => by rw [z, nG] at e; cases e)]
    exact e
  refine ⟨upd G p o, h, fun x u e => ?_, fun x u e => ?_, fun x => ?_, d, Hp0, h, spl_empty h, ⟨rfl, fun G1 s => s _ _ upd_same⟩, A.mono _ _ _ sG q⟩
  · by_cases hx : x = p
    · subst hx
      rw [upd_same] at e ⊢
      exact e
    · rw [upd_ne hx] at e ⊢
      exact a x u e
  · rw [upd_ne (ne (b x u e))]
    exact b x u e
  · by_cases hx : x = p
    · subst hx
      exact .inr nh
    · rcases c x with z | z
      · refine .inl ?_
        rw [upd_ne hx]
        exact z
      · exact .inr z
theorem Wd.get (w : Wd H (pt p o • A)) : H p = some o := by
  obtain ⟨G, h, a, b, c, d, h1, h2, s, e, q⟩ := w
  have e : h1 = upd Hp0 p o := e
  exact b p o (s.left (by rw [e, upd_same]))
theorem Wd.write (w : Wd H (pt p o • A)) (nt : ∀ xs, o' ≠ .tup xs) : Wd (upd H p o') (pt p o' • A) := by
  obtain ⟨G, h, a, b, c, d, h1, h2, s, e, q⟩ := w
  have e : h1 = upd Hp0 p o := e
  subst e
  have hp : h p = some o := s.left upd_same
  have n2 : h2 p = none := by
    rcases s.1 p with z | z
    · rw [upd_same] at z
      cases z
    · exact z
  have nG : G p = none := by
    rcases c p with z | z
    · exact z
    · rw [hp] at z
      cases z
  have h2h : ∀ {x u}, h2 x = some u → x ≠ p := fun e z => by
    rw [z, n2] at e
    cases e
  refine ⟨G, uni (upd Hp0 p o') h2, fun x u e => ?_, fun x u e => ?_, fun x => ?_, fun x xs e => ?_, _, h2, spl_uni fun x => ?_, rfl, q⟩
  · rw [upd_ne (fun z => by rw [z, nG] at e; cases e)]
    exact a x u e
  · unfold uni at e
    by_cases hx : x = p
    · subst hx
      rw [upd_same] at e ⊢
      exact e
    · rw [upd_ne hx] at e ⊢
      exact b x u (s.right e)
  · by_cases hx : x = p
    · subst hx
      exact .inl nG
    · rcases c x with z | z
      · exact .inl z
      · refine .inr ?_
        unfold uni
        rw [upd_ne hx]
        exact (s.none_iff.mp z).2
  · unfold uni at e
    by_cases hx : x = p
    · subst hx
      rw [upd_same] at e
      exact nt xs (Option.some.inj e)
    · rw [upd_ne hx] at e
      exact d x xs (s.right e)
  · by_cases hx : x = p
    · subst hx
      exact .inr n2
    · refine .inl ?_
      rw [upd_ne hx]
      rfl
theorem Wd.swap (w : Wd H (A • B)) : Wd H (B • A) := w.eq (star_comm A B)
theorem Wd.rot (w : Wd H (A • B • C)) : Wd H (B • A • C) := w.eq (star_left A B C)
end
end WC

/-! WLb: trees and what stands for them. -/
namespace WC
open PySem PySem.Spec PyProof.Rows L2
/-- stable data -/
inductive D where
  | fl (x : V)
  | any
  | tup (ds : List D)
  | lst (ds : List D)
  | dK (ks : List Key) (ds : List D)
  | dT (ks : List (List Key)) (ds : List D)
  | ins (C : Addr) (fs : List Str) (ds : List D)
/-- a value with all that hangs on it: stable, or owned here alone -/
inductive T where
  | d (x : D)
  | gone
  | tup (ts : List T)
  | lst (ts : List T)
  | dK (ks : List Key) (ts : List T)
  | dT (ks : List (List Key)) (ts : List T)
  | ins (C : Addr) (fs : List Str) (ts : List T)
abbrev D.int (i : Int) : D := .fl (.int i)
abbrev D.bl (b : Bool) : D := .fl (.bl b)
abbrev D.str (x : Str) : D := .fl (.str x)
abbrev D.non : D := .fl .non
abbrev T.fl (x : V) : T := .d (.fl x)
abbrev T.int (i : Int) : T := .d (.fl (.int i))
abbrev T.bl (b : Bool) : T := .d (.fl (.bl b))
abbrev T.str (x : Str) : T := .d (.fl (.str x))
abbrev T.non : T := .d (.fl .non)

variable (K : PySem.W.Frag)
/-- a tuple of the stable heap, or of the written part -/
def TupA (G : Hp) (p : Addr) (vs : List V) : Prop := G p = some (.tup vs) ∨ SqT K Hp0 p vs
mutual
def Den (G : Hp) : D → V → Prop
  | .fl x, v => v = x
  | .any, _ => True
  | .tup ds, v => ∃ p vs, v = .ref p ∧ TupA K G p vs ∧ DenL G ds vs
  | .lst ds, v => ∃ p vs, v = .ref p ∧ SqL K G p vs ∧ DenL G ds vs
  | .dK ks ds, v => ∃ p vs, v = .ref p ∧ ks.length = ds.length ∧ Rd G p (.dK (ks.zip vs)) ∧ DenL G ds vs
  | .dT ks ds, v => ∃ p vs, v = .ref p ∧ ks.length = ds.length ∧ Rd G p (.dT (ks.zip vs)) ∧ DenL G ds vs
  | .ins C fs ds, v => ∃ p dx vs, v = .ref p ∧ fs.length = ds.length ∧ G p = some (.ins C dx (fs.zip vs)) ∧ DenL G ds vs
def DenL (G : Hp) : List D → List V → Prop
  | [], [] => True
  | d :: ds, v :: vs => Den G d v ∧ DenL G ds vs
  | _, _ => False
end
mutual
def Rep : T → V → Asn
  | .d x, v => kn fun G => Den K G x v
  | .gone, _ => emp
  | .tup ts, v => ex fun p => ex fun vs => pu (v = .ref p) • kn (fun G => TupA K G p vs) • RepL ts vs
  | .lst ts, v => ex fun p => ex fun vs => pu (v = .ref p) • pt p (.lst vs) • RepL ts vs
  | .dK ks ts, v => ex fun p => ex fun vs => pu (v = .ref p ∧ ks.length = ts.length) • pt p (.dK (ks.zip vs)) • RepL ts vs
  | .dT ks ts, v => ex fun p => ex fun vs => pu (v = .ref p ∧ ks.length = ts.length) • pt p (.dT (ks.zip vs)) • RepL ts vs
  | .ins C fs ts, v => ex fun p => ex fun dx => ex fun vs => pu (v = .ref p ∧ fs.length = ts.length) • pt p (.ins C dx (fs.zip vs)) • RepL ts vs
def RepL : List T → List V → Asn
  | [], [] => emp
  | t :: ts, v :: vs => Rep t v • RepL ts vs
  | _, _ => fal
end
/-- slots -/
def SlotA : T → Option V → Asn
  | t, some v => Rep K t v
  | t, none => pu (t = .gone)
def EnvA : List T → List (Option V) → Asn
  | [], [] => emp
  | t :: env, x :: σ => SlotA K t x • EnvA env σ
  | _, _ => fal

/-! made stable -/
mutual
def frz : T → D
  | .d x => x
  | .gone => .any
  | .tup ts => .tup (frzL ts)
  | .lst ts => .lst (frzL ts)
  | .dK ks ts => .dK ks (frzL ts)
  | .dT ks ts => .dT ks (frzL ts)
  | .ins C fs ts => .ins C fs (frzL ts)
def frzL : List T → List D
  | [] => []
  | t :: ts => frz t :: frzL ts
end
/-- a slot made stable -/
def frzS : T → T
  | .gone => .gone
  | .d x => .d x
  | .tup ts => .d (.tup (frzL ts))
  | .lst ts => .d (.lst (frzL ts))
  | .dK ks ts => .d (.dK ks (frzL ts))
  | .dT ks ts => .d (.dT ks (frzL ts))
  | .ins C fs ts => .d (.ins C fs (frzL ts))
/-! flat values and tuples alone -/
mutual
def flatD : D → Bool
  | .fl _ => true
  | .any => true
  | .tup ds => flatDs ds
  | _ => false
def flatDs : List D → Bool
  | [] => true
  | d :: ds => flatD d && flatDs ds
end
/-! nothing stable hangs on it but tuples -/
mutual
def own : T → Bool
  | .d x => flatD x
  | .gone => true
  | .tup ts => ownL ts
  | .lst ts => ownL ts
  | .dK _ ts => ownL ts
  | .dT _ ts => ownL ts
  | .ins _ _ ts => ownL ts
def ownL : List T → Bool
  | [] => true
  | t :: ts => own t && ownL ts
end
theorem frzL_map : ∀ ts : List T, frzL ts = ts.map frz
  | [] => by simp only [frzL, List.map_nil]
  | t :: ts => by simp only [frzL, List.map_cons, frzL_map ts]
theorem frzL_d : ∀ ds : List D, frzL (ds.map .d) = ds
  | [] => by simp only [List.map_nil, frzL]
  | d :: ds => by simp only [List.map_cons, frzL, frz, frzL_d ds]
theorem ownL_all : ∀ ts : List T, ownL ts = ts.all own
  | [] => by simp only [ownL, List.all_nil]
  | t :: ts => by simp only [ownL, List.all_cons, ownL_all ts]
theorem flatDs_all : ∀ ds : List D, flatDs ds = ds.all flatD
  | [] => by simp only [flatDs, List.all_nil]
  | d :: ds => by simp only [flatDs, List.all_cons, flatDs_all ds]
theorem frzS_eq : ∀ t : T, t ≠ .gone → frzS t = .d (frz t)
  | .gone, h => absurd rfl h
  | .d x, _ => by simp only [frzS, frz]
  | .tup ts, _ => by simp only [frzS, frz]
  | .lst ts, _ => by simp only [frzS, frz]
  | .dK ks ts, _ => by simp only [frzS, frz]
  | .dT ks ts, _ => by simp only [frzS, frz]
  | .ins C fs ts, _ => by simp only [frzS, frz]

section
variable {K}
theorem SqT_hp0 {H : Hp} {p : Addr} {vs : List V} (h : SqT K Hp0 p vs) : SqT K H p vs := by
  rcases h with (h | ⟨o, h⟩) | h
  · cases h
  · cases h
  · exact .inr h
theorem TupA.sq {H : Hp} {p : Addr} {vs : List V} (h : TupA K H p vs) : SqT K H p vs := by
  rcases h with h | h
  · exact SqT.of h
  · exact SqT_hp0 h
theorem TupA.same {H H' : Hp} {p : Addr} {vs : List V} (e : Same H H') (h : TupA K H p vs) : TupA K H' p vs := h.imp (fun q => e _ _ q) fun q => q
theorem same_rd {H H' : Hp} {a : Addr} {u : HO} (e : Same H H') (h : Rd H a u) : Rd H' a u := by
  rcases h with h | ⟨o, h⟩
  · exact .inl (e a _ h)
  · exact .inr ⟨o, e a _ h⟩
mutual
theorem Den.same {G G' : Hp} (e : Same G G') : ∀ (d : D) (v : V), Den K G d v → Den K G' d v
  | .fl x, v, h => by simp only [Den] at h ⊢; exact h
  | .any, v, h => by simp only [Den]
  | .tup ds, v, h => by
    simp only [Den] at h ⊢
    obtain ⟨p, vs, a, b, c⟩ := h
    exact ⟨p, vs, a, b.same e, DenL.same e ds vs c⟩
  | .lst ds, v, h => by
    simp only [Den] at h ⊢
    obtain ⟨p, vs, a, b, c⟩ := h
    exact ⟨p, vs, a, Same.seq e b, DenL.same e ds vs c⟩
  | .dK ks ds, v, h => by
    simp only [Den] at h ⊢
    obtain ⟨p, vs, a, l, b, c⟩ := h
    exact ⟨p, vs, a, l, same_rd e b, DenL.same e ds vs c⟩
  | .dT ks ds, v, h => by
    simp only [Den] at h ⊢
    obtain ⟨p, vs, a, l, b, c⟩ := h
    exact ⟨p, vs, a, l, same_rd e b, DenL.same e ds vs c⟩
  | .ins C fs ds, v, h => by
    simp only [Den] at h ⊢
    obtain ⟨p, dx, vs, a, l, b, c⟩ := h
    exact ⟨p, dx, vs, a, l, e _ _ b, DenL.same e ds vs c⟩
theorem DenL.same {G G' : Hp} (e : Same G G') : ∀ (ds : List D) (vs : List V), DenL K G ds vs → DenL K G' ds vs
  | [], [], _ => by simp only [DenL]
  | [], _ :: _, h => by simp only [DenL] at h
  | _ :: _, [], h => by simp only [DenL] at h
  | d :: ds, v :: vs, h => by
    simp only [DenL] at h ⊢
    exact ⟨Den.same e d v h.1, DenL.same e ds vs h.2⟩
end
theorem DenL_len {G : Hp} : ∀ {ds : List D} {vs : List V}, DenL K G ds vs → ds.length = vs.length
  | [], [], _ => rfl
  | [], _ :: _, h => by simp only [DenL] at h
  | _ :: _, [], h => by simp only [DenL] at h
  | d :: ds, v :: vs, h => by
    simp only [DenL] at h
    rw [List.length_cons, List.length_cons, DenL_len h.2]
theorem DenL_get {G : Hp} : ∀ {ds : List D} {vs : List V} {i : Nat} {d : D}, DenL K G ds vs → ds[i]? = some d → ∃ v, vs[i]? = some v ∧ Den K G d v
  | [], _, _, _, _, e => by simp at e
  | _ :: _, [], _, _, h, _ => by simp only [DenL] at h
  | c :: ds, v :: vs, 0, d, h, e => by
    simp only [DenL] at h
    simp only [List.getElem?_cons_zero, Option.some.injEq] at e
    subst e
    exact ⟨v, rfl, h.1⟩
  | c :: ds, v :: vs, i + 1, d, h, e => by
    simp only [DenL] at h
    simp only [List.getElem?_cons_succ] at e
    obtain ⟨w, a, b⟩ := DenL_get h.2 e
    exact ⟨w, by simpa using a, b⟩
theorem RepL_len : ∀ {ts : List T} {vs : List V} {G h : Hp}, (RepL K ts vs).P G h → ts.length = vs.length
  | [], [], _, _, _ => rfl
  | [], _ :: _, _, _, p => by simp only [RepL] at p; exact p.elim
  | _ :: _, [], _, _, p => by simp only [RepL] at p; exact p.elim
  | t :: ts, v :: vs, G, h, p => by
    simp only [RepL] at p
    obtain ⟨h1, h2, _, _, q⟩ := p
    rw [List.length_cons, List.length_cons, RepL_len q]
theorem Wd.lenL {H : Hp} {ts : List T} {vs : List V} {R : Asn} (w : Wd H (RepL K ts vs • R)) : ts.length = vs.length := by
  obtain ⟨G, h, a, b, c, d, h1, h2, s, e, q⟩ := w
  exact RepL_len e
theorem RepL_nil : RepL K [] [] = emp := by simp only [RepL]
theorem RepL_cons {t : T} {ts : List T} {v : V} {vs : List V} : RepL K (t :: ts) (v :: vs) = Rep K t v • RepL K ts vs := by simp only [RepL]
theorem RepL_app : ∀ {ts us : List T} {vs ws : List V}, ts.length = vs.length → RepL K (ts ++ us) (vs ++ ws) = RepL K ts vs • RepL K us ws
  | [], us, [], ws, _ => by rw [RepL_nil, emp_star]; rfl
  | t :: ts, us, v :: vs, ws, h => by
    rw [List.cons_append, List.cons_append, RepL_cons, RepL_cons, RepL_app (by simpa using h), star_assoc]
  | [], _, _ :: _, _, h => by simp at h
  | _ :: _, _, [], _, h => by simp at h
theorem Rep_d {x : D} {v : V} : Rep K (.d x) v = kn fun G => Den K G x v := by simp only [Rep]
theorem kn_den {G h : Hp} {x : D} {v : V} : (Rep K (.d x) v).P G h ↔ h = Hp0 ∧ Den K G x v := by
  rw [Rep_d]
  exact ⟨fun ⟨a, b⟩ => ⟨a, b G (Same.refl G)⟩, fun ⟨a, b⟩ => ⟨a, fun G1 s => Den.same s x v b⟩⟩
theorem wd_d {H : Hp} {x : D} {v : V} {R : Asn} (w : Wd H (Rep K (.d x) v • R)) : Den K H x v := by
  rw [Rep_d] at w
  exact w.knL
theorem wd_dup {H : Hp} {x : D} {v : V} {R : Asn} (w : Wd H (Rep K (.d x) v • R)) : Wd H (Rep K (.d x) v • Rep K (.d x) v • R) := by
  rw [Rep_d] at w ⊢
  rw [kn_dup] at w
  exact w.eq (star_assoc _ _ _)
theorem Rep_dup {x : D} {v : V} : Rep K (.d x) v = Rep K (.d x) v • Rep K (.d x) v := by
  rw [Rep_d]
  exact kn_dup _
/-- any part may be left away -/
theorem Wd.drop {H : Hp} {A R : Asn} (w : Wd H (A • R)) : Wd H R := by
  obtain ⟨G, h, a, b, c, e, h1, h2, s, p, q⟩ := w
  exact ⟨G, h2, a, fun x o z => b x o (s.right z), fun x => by
    rcases c x with z | z
    · exact .inl z
    · exact .inr (s.none_iff.mp z).2, fun x xs z => e x xs (s.right z), q⟩
theorem wd_fl {H : Hp} {x v : V} {R : Asn} (w : Wd H (Rep K (.fl x) v • R)) : v = x := by
  have h := wd_d w
  simp only [Den] at h
  exact h
theorem rep_fl {x : V} : Rep K (.fl x) x = emp := Asn.ext' fun G h => by
  rw [kn_den]
  simp only [Den, and_true]
  exact Iff.rfl
theorem wd_ofl {H : Hp} {x : V} {R : Asn} (w : Wd H R) : Wd H (Rep K (.fl x) x • R) := by
  rw [rep_fl, emp_star]
  exact w
/-- something stable comes to be known -/
theorem wd_know {H : Hp} {φ ψ : Hp → Prop} {R : Asn} (w : Wd H (kn φ • R)) (f : ∀ G, φ G → ψ G) : Wd H (kn ψ • R) := w.impL fun _ _ p => ⟨p.1, fun G1 s => f _ (p.2 G1 s)⟩
theorem wd_sub {H : Hp} {x y : D} {v u : V} {R : Asn} (w : Wd H (Rep K (.d x) v • R)) (f : ∀ G, Den K G x v → Den K G y u) : Wd H (Rep K (.d y) u • Rep K (.d x) v • R) := by
  have w2 := wd_dup w
  refine w2.impL fun G h p => ?_
  rw [kn_den] at p ⊢
  exact ⟨p.1, f G p.2⟩
end
end WC

/-! WLc: freezing, reading from the whole heap, slots. -/
namespace WC
open PySem PySem.Spec PyProof.Rows L2
variable {K : PySem.W.Frag}
mutual
theorem Rep_frz : ∀ (t : T) (v : V) (G h G' : Hp), (Rep K t v).P G h → Same G G' → Same h G' → Den K G' (frz t) v
  | .d x, v, G, h, G', p, a, b => by
    rw [kn_den] at p
    simp only [frz]
    exact Den.same a x v p.2
  | .gone, v, G, h, G', p, a, b => by simp only [frz, Den]
  | .tup ts, v, G, h, G', p, a, b => by
    simp only [Rep] at p
    simp only [frz, Den]
    obtain ⟨q, vs, h1, h2, s, x, h3, h4, s', y, z⟩ := p
    exact ⟨q, vs, x.2, y.2 _ a, RepL_frz ts vs G h4 G' z a fun c o e => b c o (s.right (s'.right e))⟩
  | .lst ts, v, G, h, G', p, a, b => by
    simp only [Rep] at p
    simp only [frz, Den]
    obtain ⟨q, vs, h1, h2, s, x, h3, h4, s', y, z⟩ := p
    have y : h3 = upd Hp0 q (.lst vs) := y
    exact ⟨q, vs, x.2, SqL.of (b _ _ (s.right (s'.left (by rw [y, upd_same])))), RepL_frz ts vs G h4 G' z a fun c o e => b c o (s.right (s'.right e))⟩
  | .dK ks ts, v, G, h, G', p, a, b => by
    simp only [Rep] at p
    simp only [frz, Den]
    obtain ⟨q, vs, h1, h2, s, x, h3, h4, s', y, z⟩ := p
    have y : h3 = upd Hp0 q (.dK (ks.zip vs)) := y
    refine ⟨q, vs, x.2.1, ?_, .inl (b _ _ (s.right (s'.left (by rw [y, upd_same])))), RepL_frz ts vs G h4 G' z a fun c o e => b c o (s.right (s'.right e))⟩
    rw [frzL_map, List.length_map]
    exact x.2.2
  | .dT ks ts, v, G, h, G', p, a, b => by
    simp only [Rep] at p
    simp only [frz, Den]
    obtain ⟨q, vs, h1, h2, s, x, h3, h4, s', y, z⟩ := p
    have y : h3 = upd Hp0 q (.dT (ks.zip vs)) := y
    refine ⟨q, vs, x.2.1, ?_, .inl (b _ _ (s.right (s'.left (by rw [y, upd_same])))), RepL_frz ts vs G h4 G' z a fun c o e => b c o (s.right (s'.right e))⟩
    rw [frzL_map, List.length_map]
    exact x.2.2
  | .ins C fs ts, v, G, h, G', p, a, b => by
    simp only [Rep] at p
    simp only [frz, Den]
    obtain ⟨q, dx, vs, h1, h2, s, x, h3, h4, s', y, z⟩ := p
    have y : h3 = upd Hp0 q (.ins C dx (fs.zip vs)) := y
    refine ⟨q, dx, vs, x.2.1, ?_, b _ _ (s.right (s'.left (by rw [y, upd_same]))), RepL_frz ts vs G h4 G' z a fun c o e => b c o (s.right (s'.right e))⟩
    rw [frzL_map, List.length_map]
    exact x.2.2
theorem RepL_frz : ∀ (ts : List T) (vs : List V) (G h G' : Hp), (RepL K ts vs).P G h → Same G G' → Same h G' → DenL K G' (frzL ts) vs
  | [], [], G, h, G', p, a, b => by simp only [frzL, DenL]
  | [], _ :: _, G, h, G', p, a, b => by
    simp only [RepL] at p
    exact p.elim
  | _ :: _, [], G, h, G', p, a, b => by
    simp only [RepL] at p
    exact p.elim
  | t :: ts, v :: vs, G, h, G', p, a, b => by
    simp only [RepL] at p
    simp only [frzL, DenL]
    obtain ⟨h1, h2, s, x, y⟩ := p
    exact ⟨Rep_frz t v G h1 G' x a fun c o e => b c o (s.left e), RepL_frz ts vs G h2 G' y a fun c o e => b c o (s.right e)⟩
end
/-- an owned part becomes stable -/
theorem Wd.frzGen {H : Hp} {A B R : Asn} (f : ∀ G h G', A.P G h → Same G G' → Same h G' → B.P G' Hp0) (w : Wd H (A • R)) : Wd H (B • R) := by
  obtain ⟨G, h, a, b, c, d, h1, h2, s, p, q⟩ := w
  have dG : ∀ x, G x = none ∨ h1 x = none := fun x => (c x).imp (fun z => z) fun z => (s.none_iff.mp z).1
  have s1 : Same G (uni G h1) := fun x o e => by
    unfold uni
    rw [e]
    rfl
  have s2 : Same h1 (uni G h1) := fun x o e => by
    unfold uni
    rcases dG x with z | z
    · rw [z, e]
      rfl
    · rw [z] at e
      cases e
  refine ⟨uni G h1, h2, fun x o e => ?_, fun x o e => b x o (s.right e), fun x => ?_, fun x xs e => d x xs (s.right e), Hp0, h2, spl_empty h2, f G h1 _ p s1 s2, R.mono _ _ _ s1 q⟩
  · unfold uni at e
    cases z : G x with
    | some u =>
      rw [z] at e
      rw [a x u z]
      exact e
    | none =>
      rw [z] at e
      exact b x o (s.left e)
  · rcases c x with z | z
    · rcases s.1 x with y | y
      · exact .inl (uni_none.mpr ⟨z, y⟩)
      · exact .inr y
    · exact .inr (s.none_iff.mp z).2
theorem wd_frz {H : Hp} {t : T} {v : V} {R : Asn} (w : Wd H (Rep K t v • R)) : Wd H (Rep K (.d (frz t)) v • R) := w.frzGen fun G h G' p a b => kn_den.mpr ⟨rfl, Rep_frz t v G h G' p a b⟩
/-- what of a tree is told by the whole heap -/
theorem wd_den {H : Hp} {t : T} {v : V} {R : Asn} (w : Wd H (Rep K t v • R)) : Den K H (frz t) v := by
  obtain ⟨G, h, a, b, c, d, h1, h2, s, p, q⟩ := w
  exact Rep_frz t v G h1 H p a fun x o e => b x o (s.left e)
theorem wd_denL {H : Hp} {ts : List T} {vs : List V} {R : Asn} (w : Wd H (RepL K ts vs • R)) : DenL K H (frzL ts) vs := by
  obtain ⟨G, h, a, b, c, d, h1, h2, s, p, q⟩ := w
  exact RepL_frz ts vs G h1 H p a fun x o e => b x o (s.left e)

/-! ### slots -/
theorem SlotA_frz (t : T) (x : Option V) (G h G' : Hp) (p : (SlotA K t x).P G h) (a : Same G G') (b : Same h G') : (SlotA K (frzS t) x).P G' Hp0 := by
  cases x with
  | some v =>
    show (Rep K (frzS t) v).P G' Hp0
    by_cases ht : t = .gone
    · subst ht
      simp only [frzS, Rep]
      rfl
    · rw [frzS_eq t ht]
      exact kn_den.mpr ⟨rfl, Rep_frz t v G h G' p a b⟩
  | none =>
    have p : (pu (t = .gone)).P G h := p
    refine ⟨rfl, ?_⟩
    rw [p.2]
    simp only [frzS]
theorem EnvA_frz : ∀ (env : List T) (σ : List (Option V)) (G h G' : Hp), (EnvA K env σ).P G h → Same G G' → Same h G' → (EnvA K (env.map frzS) σ).P G' Hp0
  | [], [], _, _, _, _, _, _ => rfl
  | [], _ :: _, _, _, _, p, _, _ => p.elim
  | _ :: _, [], _, _, _, p, _, _ => p.elim
  | t :: env, x :: σ, G, h, G', p, a, b => by
    obtain ⟨h1, h2, s, y, z⟩ := p
    exact ⟨Hp0, Hp0, spl_empty Hp0, SlotA_frz t x G h1 G' y a fun c o e => b c o (s.left e), EnvA_frz env σ G h2 G' z a fun c o e => b c o (s.right e)⟩
/-- all that stands is looked at as stable -/
theorem wd_all {H : Hp} {A R B : Asn} (f : ∀ G h G', A.P G h → Same G G' → Same h G' → B.P G' Hp0) (w : Wd H (A • R)) : Wd H (B • kn fun G => Same H G) := by
  obtain ⟨G, h, a, b, c, d, h1, h2, s, p, q⟩ := w
  exact ⟨H, Hp0, Same.refl H, fun x o e => (by cases e), fun x => .inr rfl, fun x xs e => (by cases e), Hp0, Hp0, spl_empty Hp0, f G h1 H p a fun x o e => b x o (s.left e), ⟨rfl, fun G1 s => s⟩⟩
mutual
theorem Den_flat : ∀ (x : D) (v : V) (G G' : Hp), flatD x = true → Den K G x v → (∀ a xs, G a = some (.tup xs) → G' a = some (.tup xs)) → Den K G' x v
  | .fl x, v, G, G', d, p, a => by
    simp only [Den] at p ⊢
    exact p
  | .any, v, G, G', d, p, a => by simp only [Den]
  | .tup ds, v, G, G', d, p, a => by
    simp only [flatD] at d
    simp only [Den] at p ⊢
    obtain ⟨q, vs, e, y, z⟩ := p
    exact ⟨q, vs, e, y.imp (a _ _) (fun z => z), DenL_flat ds vs G G' d z a⟩
  | .lst _, _, _, _, d, _, _ => by simp only [flatD] at d; cases d
  | .dK _ _, _, _, _, d, _, _ => by simp only [flatD] at d; cases d
  | .dT _ _, _, _, _, d, _, _ => by simp only [flatD] at d; cases d
  | .ins _ _ _, _, _, _, d, _, _ => by simp only [flatD] at d; cases d
theorem DenL_flat : ∀ (ds : List D) (vs : List V) (G G' : Hp), flatDs ds = true → DenL K G ds vs → (∀ a xs, G a = some (.tup xs) → G' a = some (.tup xs)) → DenL K G' ds vs
  | [], [], _, _, _, _, _ => by simp only [DenL]
  | [], _ :: _, _, _, _, h, _ => by simp only [DenL] at h
  | _ :: _, [], _, _, _, h, _ => by simp only [DenL] at h
  | d :: ds, v :: vs, G, G', f, h, a => by
    simp only [flatDs, Bool.and_eq_true] at f
    simp only [DenL] at h ⊢
    exact ⟨Den_flat d v G G' f.1 h.1 a, DenL_flat ds vs G G' f.2 h.2 a⟩
end
mutual
theorem Rep_own : ∀ (t : T) (v : V) (G h G' : Hp), own t = true → (Rep K t v).P G h → (∀ a xs, G a = some (.tup xs) → G' a = some (.tup xs)) → (Rep K t v).P G' h
  | .d x, v, G, h, G', d, p, a => by
    simp only [own] at d
    rw [kn_den] at p ⊢
    exact ⟨p.1, Den_flat x v G G' d p.2 a⟩
  | .gone, v, G, h, G', d, p, a => by
    simp only [Rep] at p ⊢
    exact p
  | .tup ts, v, G, h, G', d, p, a => by
    simp only [own] at d
    simp only [Rep] at p ⊢
    obtain ⟨q, vs, h1, h2, s, x, h3, h4, s', y, z⟩ := p
    refine ⟨q, vs, h1, h2, s, x, h3, h4, s', ⟨y.1, fun G1 r => ?_⟩, RepL_own ts vs G h4 G' d z a⟩
    rcases y.2 G (Same.refl G) with e | e
    · exact .inl (r _ _ (a _ _ e))
    · exact .inr e
  | .lst ts, v, G, h, G', d, p, a => by
    simp only [own] at d
    simp only [Rep] at p ⊢
    obtain ⟨q, vs, h1, h2, s, x, h3, h4, s', y, z⟩ := p
    exact ⟨q, vs, h1, h2, s, x, h3, h4, s', y, RepL_own ts vs G h4 G' d z a⟩
  | .dK ks ts, v, G, h, G', d, p, a => by
    simp only [own] at d
    simp only [Rep] at p ⊢
    obtain ⟨q, vs, h1, h2, s, x, h3, h4, s', y, z⟩ := p
    exact ⟨q, vs, h1, h2, s, x, h3, h4, s', y, RepL_own ts vs G h4 G' d z a⟩
  | .dT ks ts, v, G, h, G', d, p, a => by
    simp only [own] at d
    simp only [Rep] at p ⊢
    obtain ⟨q, vs, h1, h2, s, x, h3, h4, s', y, z⟩ := p
    exact ⟨q, vs, h1, h2, s, x, h3, h4, s', y, RepL_own ts vs G h4 G' d z a⟩
  | .ins C fs ts, v, G, h, G', d, p, a => by
    simp only [own] at d
    simp only [Rep] at p ⊢
    obtain ⟨q, dx, vs, h1, h2, s, x, h3, h4, s', y, z⟩ := p
    exact ⟨q, dx, vs, h1, h2, s, x, h3, h4, s', y, RepL_own ts vs G h4 G' d z a⟩
theorem RepL_own : ∀ (ts : List T) (vs : List V) (G h G' : Hp), ownL ts = true → (RepL K ts vs).P G h → (∀ a xs, G a = some (.tup xs) → G' a = some (.tup xs)) → (RepL K ts vs).P G' h
  | [], [], G, h, G', d, p, a => by
    simp only [RepL] at p ⊢
    exact p
  | [], _ :: _, G, h, G', d, p, a => by
    simp only [RepL] at p
    exact p.elim
  | _ :: _, [], G, h, G', d, p, a => by
    simp only [RepL] at p
    exact p.elim
  | t :: ts, v :: vs, G, h, G', d, p, a => by
    simp only [ownL, Bool.and_eq_true] at d
    simp only [RepL] at p ⊢
    obtain ⟨h1, h2, s, x, y⟩ := p
    exact ⟨h1, h2, s, Rep_own t v G h1 G' d.1 x a, RepL_own ts vs G h2 G' d.2 y a⟩
end
/-- what was made while all stood still comes beside what stood -/
theorem wd_backG {H H' : Hp} {R0 A B : Asn} (o : ∀ G h G', B.P G h → (∀ a xs, G a = some (.tup xs) → G' a = some (.tup xs)) → B.P G' h) (w0 : Wd H R0) (w : Wd H' (B • kn (fun G => Same H G) • A)) : Wd H' (B • R0) := by
  obtain ⟨G, h, a, b, c, d, q⟩ := w0
  obtain ⟨G', h', a', b', c', d', h1, h2, s, p, h3, h4, s', y, z⟩ := w
  have hG : Same H G' := y.2 G' (Same.refl _)
  have hH : Same H H' := hG.trans a'
  have n1 : ∀ {x o}, H x = some o → h1 x = none := fun e => by
    rcases c' _ with z | z
    · rw [hG _ _ e] at z
      cases z
    · exact (s.none_iff.mp z).1
  refine ⟨fun x => match H' x with
    | some (.tup xs) => some (.tup xs)
    | _ => G x, uni h1 h, fun x o e => ?_, fun x o e => ?_, fun x => ?_, fun x xs e => ?_, h1, h, spl_uni fun x => ?_, ?_, R0.mono G _ h (fun x o e => ?_) q⟩
  · dsimp only at e
    split at e
    · rename_i z
      rw [z]
      exact e
    · exact hH _ _ (a _ _ e)
  · unfold uni at e
    cases z : h1 x with
    | some u =>
      rw [z] at e
      rw [b' x u (s.left z)]
      exact e
    | none =>
      rw [z] at e
      exact hH _ _ (b x o e)
  · dsimp only
    split
    · rename_i xs z
      refine .inr (uni_none.mpr ⟨?_, ?_⟩)
      · cases e : h1 x with
        | none => rfl
        | some u =>
          have e2 := b' x u (s.left e)
          rw [z] at e2
          cases e2
          exact absurd (s.left e) (d' x xs)
      · cases e : h x with
        | none => rfl
        | some u =>
          have e2 := hH _ _ (b x u e)
          rw [z] at e2
          cases e2
          exact absurd e (d x xs)
    · cases e : G x with
      | none => exact .inl rfl
      | some u =>
        refine .inr (uni_none.mpr ⟨n1 (a _ _ e), ?_⟩)
        rcases c x with z | z
        · rw [e] at z
          cases z
        · exact z
  · unfold uni at e
    cases z : h1 x with
    | some u =>
      rw [z] at e
      exact d' x xs (s.left (by rw [z]; exact e))
    | none =>
      rw [z] at e
      exact d x xs e
  · cases e : h x with
    | none => exact .inr rfl
    | some u => exact .inl (n1 (b _ _ e))
  · refine o G' h1 _ p fun x xs e => ?_
    simp only [a' _ _ e]
  · have e2 := hH _ _ (a _ _ e)
    simp only [e2]
    cases o <;> first | rfl | exact e
theorem wd_back {H H' : Hp} {R0 A : Asn} {t : T} {v : V} (w0 : Wd H R0) (o : own t = true) (w : Wd H' (Rep K t v • kn (fun G => Same H G) • A)) : Wd H' (Rep K t v • R0) :=
  wd_backG (fun G h G' p a => Rep_own t v G h G' o p a) w0 w
theorem EnvA_len : ∀ {env : List T} {σ : List (Option V)} {G h : Hp}, (EnvA K env σ).P G h → env.length = σ.length
  | [], [], _, _, _ => rfl
  | [], _ :: _, _, _, p => p.elim
  | _ :: _, [], _, _, p => p.elim
  | t :: env, x :: σ, G, h, p => by
    obtain ⟨h1, h2, _, _, q⟩ := p
    rw [List.length_cons, List.length_cons, EnvA_len q]
theorem Wd.len {H : Hp} {env : List T} {σ : List (Option V)} {R : Asn} (w : Wd H (EnvA K env σ • R)) : env.length = σ.length := by
  obtain ⟨G, h, a, b, c, d, h1, h2, s, p, q⟩ := w
  exact EnvA_len p
theorem SlotA_gone (x : Option V) : SlotA K .gone x = emp := by
  cases x with
  | none => exact pu_true rfl
  | some v =>
    show Rep K .gone v = emp
    simp only [Rep]
/-- a slot taken out -/
theorem EnvA_take : ∀ {env : List T} {σ : List (Option V)} {i : Nat} {t : T} {x : Option V}, env[i]? = some t → σ[i]? = some x → EnvA K env σ = SlotA K t x • EnvA K (env.set i .gone) σ
  | [], _, _, _, _, h, _ => by simp at h
  | _ :: _, [], _, _, _, _, h => by simp at h
  | u :: env, y :: σ, 0, t, x, h1, h2 => by
    simp only [List.getElem?_cons_zero, Option.some.injEq] at h1 h2
    subst h1
    subst h2
    show SlotA K u y • EnvA K env σ = SlotA K u y • (SlotA K .gone y • EnvA K env σ)
    rw [SlotA_gone, emp_star]
  | u :: env, y :: σ, i + 1, t, x, h1, h2 => by
    simp only [List.getElem?_cons_succ] at h1 h2
    show SlotA K u y • EnvA K env σ = SlotA K t x • (SlotA K u y • EnvA K (env.set i .gone) σ)
    rw [EnvA_take h1 h2, star_left]
theorem EnvA_put : ∀ {env : List T} {σ : List (Option V)} {i : Nat} {t : T} {v : V}, i < env.length → i < σ.length → EnvA K (env.set i t) (σ.set i (some v)) = Rep K t v • EnvA K (env.set i .gone) σ
  | [], _, _, _, _, h, _ => by simp at h
  | _ :: _, [], _, _, _, _, h => by simp at h
  | u :: env, y :: σ, 0, t, v, h1, h2 => by
    show SlotA K t (some v) • EnvA K env σ = Rep K t v • (SlotA K .gone y • EnvA K env σ)
    rw [SlotA_gone, emp_star]
    rfl
  | u :: env, y :: σ, i + 1, t, v, h1, h2 => by
    simp only [List.length_cons, Nat.add_lt_add_iff_right] at h1 h2
    show SlotA K u y • EnvA K (env.set i t) (σ.set i (some v)) = Rep K t v • (SlotA K u y • EnvA K (env.set i .gone) σ)
    rw [EnvA_put h1 h2, star_left]
/-- a slot with something in it holds a value -/
theorem wd_slot {H : Hp} {env : List T} {σ : List (Option V)} {R : Asn} {i : Nat} {t : T} (w : Wd H (EnvA K env σ • R)) (h : env[i]? = some t) (ht : t ≠ .gone) : ∃ v, σ[i]? = some (some v) ∧ EnvA K env σ = Rep K t v • EnvA K (env.set i .gone) σ := by
  have hi : i < σ.length := by
    rw [← w.len]
    exact (List.getElem?_eq_some_iff.mp h).1
  have e : σ[i]? = some σ[i] := List.getElem?_eq_getElem hi
  have e2 : EnvA K env σ = SlotA K t σ[i] • EnvA K (env.set i .gone) σ := EnvA_take h e
  cases q : σ[i] with
  | some v =>
    rw [q] at e e2
    exact ⟨v, e, e2⟩
  | none =>
    rw [q] at e2
    rw [e2] at w
    have w2 : Wd H (pu (t = .gone) • (EnvA K (env.set i .gone) σ • R)) := w.eq (star_assoc _ _ _)
    exact absurd w2.puL.1 ht
/-- behind a take, something put back into the slot -/
theorem EnvA_back {env : List T} {σ : List (Option V)} {i : Nat} {t : T} {v : V} (h : σ[i]? = some (some v)) (hi : i < env.length) : EnvA K (env.set i t) σ = Rep K t v • EnvA K (env.set i .gone) σ := by
  have hs := (List.getElem?_eq_some_iff.mp h).1
  rw [← EnvA_put hi hs]
  congr 1
  have e : σ[i] = some v := (List.getElem?_eq_some_iff.mp h).2
  rw [← e]
  simp
theorem EnvA_gone {env : List T} {σ : List (Option V)} {i : Nat} {t : T} : (env.set i t).set i .gone = env.set i .gone := by simp
end WC

/-! WLd: what code is worth over trees (S..), its readings (t..), rules for expressions and tests. -/
namespace WC
open PySem PySem.Spec PyProof.Rows L2
abbrev Nv := List T
/-- an exception: its class, its fields -/
structure Exn where
  C : Addr
  fs : List Str
  ts : List T
abbrev EK := T → Nv → Prop
abbrev XQ := Exn → Nv → Prop
abbrev SE := Nv → EK → XQ → Prop
abbrev SB := Nv → (Bool → Nv → Prop) → XQ → Prop
inductive Arg where
  | v (t : T)
  | l (i : Nat)
abbrev SA := Nv → (List Arg → Nv → Prop) → XQ → Prop
structure EndT where
  nx : Nv → Prop
  rt : T → Nv → Prop
  bk : Nv → Prop
  ct : Nv → Prop
  ex : XQ
abbrev SS := EndT → Nv → Prop
abbrev STG := T → Nv → (Nv → Prop) → Prop

section
variable (K : PySem.W.Frag) (W : WX)
def ExnA (x : Exn) (cls : Value) (d : Option Addr) : Asn := match x.fs with
  | [] => pu (cls = .ref x.C ∧ d = none)
  | _ :: _ => ex fun dx => ex fun vs => pu (cls = .ref x.C ∧ d = some dx ∧ x.fs.length = x.ts.length) • kn (fun G => G dx = some (.xd (x.fs.zip vs))) • RepL K x.ts vs
def ArgA (σ : L2.St) : List Arg → List V → Asn
  | [], [] => emp
  | .v t :: as, x :: vs => Rep K t x • ArgA σ as vs
  | .l i :: as, x :: vs => pu (σ[i]? = some (some x)) • ArgA σ as vs
  | _, _ => fal
/-- the ways out of an expression, a test, arguments -/
def OkE (σ : L2.St) (R : Asn) (k : EK) (Q : VK) : Prop := ∀ t env v H, k t env → Wd H (Rep K t v • EnvA K env σ • R) → Q v H
def OkB (σ : L2.St) (R : Asn) (k : Bool → Nv → Prop) (Q : Bool → Hp → Prop) : Prop := ∀ b env H, k b env → Wd H (EnvA K env σ • R) → Q b H
def OkA (σ : L2.St) (R : Asn) (k : List Arg → Nv → Prop) (Q : List V → Hp → Prop) : Prop := ∀ as env vs H, k as env → Wd H (ArgA K σ as vs • EnvA K env σ • R) → Q vs H
def ErE (σ : L2.St) (R : Asn) (e : XQ) : Prop := ∀ x env cls d H, e x env → Wd H (ExnA K x cls d • EnvA K env σ • R) → W cls d σ H
def tE (α : SE) : TE := fun σ H Q => ∃ env R k e, Wd H (EnvA K env σ • R) ∧ α env k e ∧ OkE K σ R k Q ∧ ErE K W σ R e
def tT (β : SB) : TT := fun σ H Q => ∃ env R k e, Wd H (EnvA K env σ • R) ∧ β env k e ∧ OkB K σ R k Q ∧ ErE K W σ R e
def tA (γ : SA) : TA := fun σ H Q => ∃ env R k e, Wd H (EnvA K env σ • R) ∧ γ env k e ∧ OkA K σ R k Q ∧ ErE K W σ R e
end
section
variable {K : PySem.W.Frag} {W : WX} {σ : L2.St} {R A : Asn} {e : XQ}
theorem ErE.more (h : ErE K W σ R e) : ErE K W σ (A • R) e := fun x env cls d H q w => h x env cls d H q (by
  have w2 : Wd H (A • (ExnA K x cls d • EnvA K env σ • R)) := w.eq (by ac_rfl)
  exact w2.drop)
theorem ErE.no : ErE K W σ R (fun _ _ => False) := fun _ _ _ _ _ q _ => False.elim q
end

/-! ### slots -/
def slot : Nv → Nat → T
  | [], _ => .gone
  | t :: _, 0 => t
  | _ :: r, n + 1 => slot r n
theorem slot_get : ∀ {env : Nv} {i : Nat}, slot env i ≠ .gone → env[i]? = some (slot env i)
  | [], _, h => absurd rfl h
  | _ :: _, 0, _ => rfl
  | _ :: r, n + 1, h => by
    rw [List.getElem?_cons_succ]
    exact slot_get (env := r) h
theorem slot_eq : ∀ {env : Nv} {i : Nat} {t : T}, env[i]? = some t → slot env i = t
  | [], _, _, h => by simp at h
  | _ :: _, 0, _, h => by simpa [slot] using h
  | _ :: r, n + 1, _, h => by
    rw [List.getElem?_cons_succ] at h
    exact slot_eq (env := r) h

/-! ### judgements -/
def PD (X : Cx) (W : WX) (e : Expr) (α : SE) : Prop := PE X e (tE X.K W α)
def PDB (X : Cx) (W : WX) (e : Expr) (β : SB) : Prop := PT X e (tT X.K W β)
def PDA (X : Cx) (W : WX) (es : List Expr) (γ : SA) : Prop := PA X es (tA X.K W γ)
theorem pe_weak {X : Cx} {e : Expr} {t t' : TE} (h : PE X e t) (f : ∀ σ H Q, t' σ H Q → t σ H Q) : PE X e t' := ⟨fun pins s σ H Q I q => h.run pins s σ H Q I (f _ _ _ q)⟩
theorem pt_weak {X : Cx} {e : Expr} {t t' : TT} (h : PT X e t) (f : ∀ σ H Q, t' σ H Q → t σ H Q) : PT X e t' := ⟨fun pins s σ H Q I q => h.run pins s σ H Q I (f _ _ _ q)⟩
theorem pa_weak {X : Cx} {e : List Expr} {t t' : TA} (h : PA X e t) (f : ∀ σ H Q, t' σ H Q → t σ H Q) : PA X e t' := ⟨fun pos pins s σ H Q I q => h.run pos pins s σ H Q I (f _ _ _ q)⟩
section
variable {X : Cx} {W : WX} {a b c : Expr} {α β γ : SE} {pos : Pos} {p : SB}

/-! ### names and constants -/
/-- a name's value that may be had again -/
def sVar (i : Nat) : SE := fun env k _ => match slot env i with
  | .d x => k (.d x) env
  | _ => False
/-- a name's value, taken out of its slot -/
def sMv (i : Nat) : SE := fun env k _ => match slot env i with
  | .gone => False
  | t => k t (env.set i .gone)
/-- a name's value, from now on stable -/
def sFz (i : Nat) : SE := fun env k _ => match slot env i with
  | .gone => False
  | t => k (.d (frz t)) (env.set i (.d (frz t)))
def sC (v : V) : SE := fun env k _ => k (.fl v) env
theorem mv_get {i : Nat} {env : Nv} {k : EK} {e : XQ} (h : sMv i env k e) : slot env i ≠ .gone ∧ k (slot env i) (env.set i .gone) := by
  unfold sMv at h
  split at h
  · exact h.elim
  · rename_i z
    exact ⟨z, h⟩
theorem fz_get {i : Nat} {env : Nv} {k : EK} {e : XQ} (h : sFz i env k e) : slot env i ≠ .gone ∧ k (.d (frz (slot env i))) (env.set i (.d (frz (slot env i)))) := by
  unfold sFz at h
  split at h
  · exact h.elim
  · rename_i z
    exact ⟨z, h⟩
variable {i : Nat} {x : Str}
theorem d_var (h : PE X a (tVar i)) : PD X W a (sVar i) := pe_weak h fun σ H Q ⟨env, R, k, e, w, q, ok, er⟩ => by
  unfold sVar at q
  split at q
  · rename_i y z
    have hg : slot env i ≠ .gone := by rw [z]; intro c; cases c
    obtain ⟨v, hv, e2⟩ := wd_slot w (slot_get hg) hg
    rw [z] at e2
    refine ⟨v, hv, ok _ _ v H q ?_⟩
    rw [e2] at w ⊢
    exact (wd_dup (w.eq (star_assoc _ _ _))).eq (by ac_rfl)
  · exact q.elim
theorem d_mv (h : PE X a (tVar i)) : PD X W a (sMv i) := pe_weak h fun σ H Q ⟨env, R, k, e, w, q, ok, er⟩ => by
  obtain ⟨hg, q⟩ := mv_get q
  obtain ⟨v, hv, e2⟩ := wd_slot w (slot_get hg) hg
  refine ⟨v, hv, ok _ _ v H q ?_⟩
  rw [e2] at w
  exact w.eq (by ac_rfl)
theorem d_fz (h : PE X a (tVar i)) : PD X W a (sFz i) := pe_weak h fun σ H Q ⟨env, R, k, e, w, q, ok, er⟩ => by
  obtain ⟨hg, q⟩ := fz_get q
  have hs := slot_get hg
  obtain ⟨v, hv, e2⟩ := wd_slot w hs hg
  refine ⟨v, hv, ok _ _ v H q ?_⟩
  rw [EnvA_back hv (List.getElem?_eq_some_iff.mp hs).1]
  rw [e2] at w
  exact (wd_dup (wd_frz (w.eq (star_assoc _ _ _)))).eq (by ac_rfl)
theorem d_c {v : V} (h : PE X a (tC v)) : PD X W a (sC v) := pe_weak h fun σ H Q ⟨env, R, k, e, w, q, ok, er⟩ => ok _ _ v H q (wd_ofl w)
theorem d_int {i : Int} {j : Nat} : PD X W (.Constant (.int i) j pos) (sC (.int i)) := d_c pe_int
theorem d_bl {b : Bool} {j : Nat} : PD X W (.Constant (.bool b) j pos) (sC (.bl b)) := d_c pe_bl
theorem d_non {j : Nat} : PD X W (.Constant .none j pos) (sC .non) := d_c pe_non
theorem d_str {x : Str} {j : Nat} : PD X W (.Constant (.str x) j pos) (sC (.str x)) := d_c pe_str

/-- the slots, laid out as a row -/
def force : Nv → (Nv → Prop) → Prop
  | [], k => k []
  | t :: ts, k => force ts fun us => k (t :: us)
theorem force_iff : ∀ {env : Nv} {k : Nv → Prop}, force env k ↔ k env
  | [], _ => Iff.rfl
  | t :: ts, k => force_iff (env := ts) (k := fun us => k (t :: us))
theorem force_mp {env : Nv} {k : Nv → Prop} (h : force env k) : k env := force_iff.mp h
/-! ### looked at while all stands still -/
/-- asked for -/
def ifT : Bool → Prop → Prop
  | true, P => P
  | false, _ => False
theorem ifT_get {b : Bool} {P : Prop} (h : ifT b P) : b = true ∧ P := by
  cases b with
  | true => exact ⟨rfl, h⟩
  | false => exact h.elim
theorem ifT_of {b : Bool} {P : Prop} (h : b = true) (p : P) : ifT b P := by
  rw [h]
  exact p
def sRd (α : SE) : SE := fun env k _ => α (env.map frzS) (fun t _ => ifT (own t) (k t env)) (fun _ _ => False)
theorem d_rd (h : PD X W a α) : PD X W a (sRd α) := pe_weak h fun σ H Q ⟨env, R, k, e, w, q, ok, er⟩ => by
  have w1 := wd_all (A := EnvA X.K env σ) (B := EnvA X.K (env.map frzS) σ) (fun G h G' p a b => EnvA_frz env σ G h G' p a b) w
  refine ⟨_, _, _, _, w1, q, fun t env' v H' k0 w2 => ?_, ErE.no⟩
  obtain ⟨o, k1⟩ := ifT_get k0
  exact ok t env v H' k1 (wd_back (A := EnvA X.K env' σ) w o (w2.eq (by ac_rfl)))
def sRdB (p : SB) : SB := fun env k _ => p (env.map frzS) (fun b _ => k b env) (fun _ _ => False)
theorem d_rdB (h : PDB X W a p) : PDB X W a (sRdB p) := pt_weak h fun σ H Q ⟨env, R, k, e, w, q, ok, er⟩ => by
  have w1 := wd_all (A := EnvA X.K env σ) (B := EnvA X.K (env.map frzS) σ) (fun G h G' p a b => EnvA_frz env σ G h G' p a b) w
  refine ⟨_, _, _, _, w1, q, fun b env' H' k1 w2 => ?_, ErE.no⟩
  have w3 : Wd H' (emp • kn (fun G => Same H G) • EnvA X.K env' σ) := by
    rw [emp_star]
    exact w2.swap
  have w4 := wd_backG (R0 := EnvA X.K env σ • R) (B := emp) (fun G h G' p a => p) w w3
  rw [emp_star] at w4
  exact ok b env H' k1 w4

/-! ### operators -/
abbrev F2 := T → T → (T → Prop) → Prop
def RB (K : PySem.W.Frag) (f : F2) (r : R2) : Prop := ∀ (ta tb : T) (x y : V) (H : Hp) (A : Asn) (k : T → Prop) (Q : VK), Wd H (Rep K ta x • Rep K tb y • A) → f ta tb k → (∀ t v H', k t → Wd H' (Rep K t v • A) → Q v H') → r x y H Q
def sBin (f : F2) (α β : SE) : SE := fun env k e => α env (fun ta env1 => β env1 (fun tb env2 => f ta tb fun t => k t env2) e) e
theorem op_of {f : F2} {r : R2} (hr : RB X.K f r) {σ : L2.St} {H : Hp} {Q : VK} (h : tE X.K W (sBin f α β) σ H Q) : tOp r (tE X.K W α) (tE X.K W β) σ H Q := by
  obtain ⟨env, R, k, e, w, q, ok, er⟩ := h
  refine ⟨env, R, _, e, w, q, fun ta env1 x H1 k1 w1 => ?_, er⟩
  refine ⟨env1, Rep X.K ta x • R, _, e, w1.eq (by ac_rfl), k1, fun tb env2 y H2 k2 w2 => ?_, er.more⟩
  exact hr ta tb x y H2 (EnvA X.K env2 σ • R) _ Q (w2.eq (by ac_rfl)) k2 fun t v H3 k3 w3 => ok t env2 v H3 k3 w3
theorem d_bin {op : Operator} {f : F2} {r : R2} (ho : OpR X (binaryOp op) r) (hr : RB X.K f r) (ha : PD X W a α) (hb : PD X W b β) : PD X W (.BinOp a op b pos) (sBin f α β) :=
  pe_weak (pe_op ho ha hb) fun _ _ _ h => op_of hr h
theorem d_cmp {op : CmpOp} {f : F2} {r : R2} (ho : OpR X (compareOp op) r) (hr : RB X.K f r) (ha : PD X W a α) (hb : PD X W b β) (hm : behindInMarks op b = false) : PD X W (.Compare a [op] [b] pos) (sBin f α β) :=
  pe_weak (pe_cmpR ho ha hb hm) fun _ _ _ h => op_of hr h
def asB (t : T) (k : Bool → Prop) : Prop := match t with
  | .d (.fl (.bl b)) => k b
  | _ => False
theorem asB_get {t : T} {k : Bool → Prop} (h : asB t k) : ∃ b, t = .bl b ∧ k b := by
  unfold asB at h
  split at h
  · exact ⟨_, rfl, h⟩
  · exact h.elim
/-- a value as a test -/
def sTest (α : SE) : SB := fun env k e => α env (fun t env' => asB t fun b => k b env') e
theorem test_of {σ : L2.St} {H : Hp} {Q : Bool → Hp → Prop} (h : tT X.K W (sTest α) σ H Q) : tE X.K W α σ H fun x H' => ∃ c, x = .bl c ∧ Q c H' := by
  obtain ⟨env, R, k, e, w, q, ok, er⟩ := h
  refine ⟨env, R, _, e, w, q, fun t env1 x H1 k1 w1 => ?_, er⟩
  obtain ⟨b, rfl, k1⟩ := asB_get k1
  obtain rfl := wd_fl w1
  exact ⟨b, rfl, ok b env1 H1 k1 w1.drop⟩
theorem d_tcmp {op : CmpOp} {f : F2} {r : R2} (ho : OpR X (compareOp op) r) (hr : RB X.K f r) (ha : PD X W a α) (hb : PD X W b β) (hm : behindInMarks op b = false) : PDB X W (.Compare a [op] [b] pos) (sTest (sBin f α β)) :=
  pt_weak (pt_cmpR ho ha hb hm) fun σ H Q h => op_of hr (test_of h |> fun z => z)
theorem d_tval (h : PD X W a α) (he : ∀ whole, isTrue a X.env whole = (do let v ← whole; standAt a.pos; holding [v] (truthy v)) := by intro _; rfl) : PDB X W a (sTest α) :=
  pt_weak (pt_val h he) fun _ _ _ h => test_of h
end
end WC

/-! WLe: and, or, not, if else, chains, arguments, displays, subscripts, calls of built-ins. -/
namespace WC
open PySem PySem.Spec PyProof.Rows L2
section
variable {X : Cx} {W : WX} {a b c : Expr} {rest es : List Expr} {α β γ : SE} {pos : Pos} {p q : SB}
def PDW (X : Cx) (W : WX) (e : Expr) (β : SB) : Prop := PW X e (tT X.K W β)
theorem pw_weak {e : Expr} {t t' : TT} (h : PW X e t) (f : ∀ σ H Q, t' σ H Q → t σ H Q) : PW X e t' := ⟨fun wh pins s σ H Q I q => h.run wh pins s σ H Q I (f _ _ _ q)⟩
theorem d_w (h : PDW X W a p) : PDB X W a p := PW.pt h
/-- a test's ways -/
def wh : Bool → Prop → Prop → Prop
  | true, A, _ => A
  | false, _, B => B
def sAnd (p q : SB) : SB := fun env k e => p env (fun b env1 => wh b (q env1 k e) (k false env1)) e
def sOr (p q : SB) : SB := fun env k e => p env (fun b env1 => wh b (k true env1) (q env1 k e)) e
def sNot (p : SB) : SB := fun env k e => p env (fun b env1 => k (!b) env1) e
def sIf (p : SB) (α β : SE) : SE := fun env k e => p env (fun b env1 => wh b (α env1 k e) (β env1 k e)) e
theorem d_and1 (h : PDB X W a p) : PDW X W (.BoolOp .And [a] pos) p := pw_and1 h
theorem d_or1 (h : PDB X W a p) : PDW X W (.BoolOp .Or [a] pos) p := pw_or1 h
theorem d_and (ha : PDB X W a p) (hb : PDW X W (.BoolOp .And (b :: rest) pos) q) : PDW X W (.BoolOp .And (a :: b :: rest) pos) (sAnd p q) :=
  pw_weak (pw_and ha hb) fun σ H Q ⟨env, R, k, e, w, h, ok, er⟩ => ⟨env, R, _, e, w, h, fun b env1 H1 k1 w1 => by
    cases b with
    | true =>
      rw [if_pos rfl]
      exact ⟨env1, R, k, e, w1, k1, ok, er⟩
    | false =>
      rw [if_neg Bool.false_ne_true]
      exact ok _ _ _ k1 w1, er⟩
theorem d_or (ha : PDB X W a p) (hb : PDW X W (.BoolOp .Or (b :: rest) pos) q) : PDW X W (.BoolOp .Or (a :: b :: rest) pos) (sOr p q) :=
  pw_weak (pw_or ha hb) fun σ H Q ⟨env, R, k, e, w, h, ok, er⟩ => ⟨env, R, _, e, w, h, fun b env1 H1 k1 w1 => by
    cases b with
    | true =>
      rw [if_pos rfl]
      exact ok _ _ _ k1 w1
    | false =>
      rw [if_neg Bool.false_ne_true]
      exact ⟨env1, R, k, e, w1, k1, ok, er⟩, er⟩
theorem d_not (ha : PDB X W a p) : PDB X W (.UnaryOp .Not a pos) (sNot p) :=
  pt_weak (pt_not ha) fun σ H Q ⟨env, R, k, e, w, h, ok, er⟩ => ⟨env, R, _, e, w, h, fun b env1 H1 k1 w1 => ok _ _ _ k1 w1, er⟩
theorem d_if (hp : PDB X W c p) (ha : PD X W a α) (hb : PD X W b β) : PD X W (.IfExp c a b pos) (sIf p α β) :=
  pe_weak (pe_ifExp hp ha hb) fun σ H Q ⟨env, R, k, e, w, h, ok, er⟩ => ⟨env, R, _, e, w, h, fun b env1 H1 k1 w1 => by
    cases b with
    | true =>
      rw [if_pos rfl]
      exact ⟨env1, R, k, e, w1, k1, ok, er⟩
    | false =>
      rw [if_neg Bool.false_ne_true]
      exact ⟨env1, R, k, e, w1, k1, ok, er⟩, er⟩
/-! as values -/
def sAndV (α β : SE) : SE := fun env k e => α env (fun t env1 => asB t fun b => wh b (β env1 k e) (k (.bl false) env1)) e
def sOrV (α β : SE) : SE := fun env k e => α env (fun t env1 => asB t fun b => wh b (k (.bl true) env1) (β env1 k e)) e
def sNotV (α : SE) : SE := fun env k e => α env (fun t env1 => asB t fun b => k (.bl (!b)) env1) e
theorem d_one {op : BoolOp} (h : PD X W a α) : PD X W (.BoolOp op [a] pos) α := pe_one h
theorem d_andV (ha : PD X W a α) (hb : PD X W (.BoolOp .And (b :: rest) pos) β) : PD X W (.BoolOp .And (a :: b :: rest) pos) (sAndV α β) :=
  pe_weak (pe_and ha hb) fun σ H Q ⟨env, R, k, e, w, h, ok, er⟩ => ⟨env, R, _, e, w, h, fun t env1 v H1 k1 w1 => by
    obtain ⟨b, rfl, k9⟩ := asB_get k1
    obtain rfl := wd_fl w1
    clear k1
    have k1 := k9
    refine ⟨b, rfl, ?_⟩
    cases b with
    | true =>
      rw [if_pos rfl]
      exact ⟨env1, R, k, e, w1.drop, k1, ok, er⟩
    | false =>
      rw [if_neg Bool.false_ne_true]
      exact ok _ _ _ _ k1 w1, er⟩
theorem d_orV (ha : PD X W a α) (hb : PD X W (.BoolOp .Or (b :: rest) pos) β) : PD X W (.BoolOp .Or (a :: b :: rest) pos) (sOrV α β) :=
  pe_weak (pe_or ha hb) fun σ H Q ⟨env, R, k, e, w, h, ok, er⟩ => ⟨env, R, _, e, w, h, fun t env1 v H1 k1 w1 => by
    obtain ⟨b, rfl, k9⟩ := asB_get k1
    obtain rfl := wd_fl w1
    clear k1
    have k1 := k9
    refine ⟨b, rfl, ?_⟩
    cases b with
    | true =>
      rw [if_pos rfl]
      exact ok _ _ _ _ k1 w1
    | false =>
      rw [if_neg Bool.false_ne_true]
      exact ⟨env1, R, k, e, w1.drop, k1, ok, er⟩, er⟩
theorem d_notV (ha : PD X W a α) : PD X W (.UnaryOp .Not a pos) (sNotV α) :=
  pe_weak (pe_not ha) fun σ H Q ⟨env, R, k, e, w, h, ok, er⟩ => ⟨env, R, _, e, w, h, fun t env1 v H1 k1 w1 => by
    obtain ⟨b, rfl, k1⟩ := asB_get k1
    obtain rfl := wd_fl w1
    exact ⟨b, rfl, ok _ _ _ _ k1 (wd_ofl w1.drop)⟩, er⟩
/-! a < b < c -/
def asD (t : T) (k : D → Prop) : Prop := match t with
  | .d x => k x
  | _ => False
theorem asD_get {t : T} {k : D → Prop} (h : asD t k) : ∃ x, t = .d x ∧ k x := by
  unfold asD at h
  split at h
  · exact ⟨_, rfl, h⟩
  · exact h.elim
def sChain (f g : F2) (α β γ : SE) : SE := fun env k e => α env (fun ta env1 => β env1 (fun tb env2 => asD tb fun y => f ta (.d y) fun z => asB z fun b => wh b (γ env2 (fun tc env3 => g (.d y) tc fun t => k t env3) e) (k (.bl false) env2)) e) e
theorem chain_of {f g : F2} {r r' : R2} (hr : RB X.K f r) (hr' : RB X.K g r') {σ : L2.St} {H : Hp} {Q : VK} (h : tE X.K W (sChain f g α β γ) σ H Q) : tChain r r' (tE X.K W α) (tE X.K W β) (tE X.K W γ) σ H Q := by
  obtain ⟨env, R, k, e, w, q, ok, er⟩ := h
  refine ⟨env, R, _, e, w, q, fun ta env1 x H1 k1 w1 => ?_, er⟩
  refine ⟨env1, Rep X.K ta x • R, _, e, w1.eq (by ac_rfl), k1, fun tb env2 y H2 k2 w2 => ?_, er.more⟩
  obtain ⟨d, rfl, k2⟩ := asD_get k2
  refine hr ta (.d d) x y H2 (Rep X.K (.d d) y • EnvA X.K env2 σ • R) _ _ ((wd_dup w2).eq (by ac_rfl)) k2 fun t v H3 k3 w3 => ?_
  obtain ⟨b, rfl, k9⟩ := asB_get k3
  obtain rfl := wd_fl w3
  clear k3
  have k3 := k9
  refine ⟨b, rfl, ?_⟩
  cases b with
  | true =>
    rw [if_pos rfl]
    refine ⟨env2, Rep X.K (.d d) y • R, _, e, w3.drop.eq (by ac_rfl), k3, fun tc env3 z H4 k4 w4 => ?_, er.more⟩
    exact hr' (.d d) tc y z H4 (EnvA X.K env3 σ • R) _ Q (w4.eq (by ac_rfl)) k4 fun t v H5 k5 w5 => ok t env3 v H5 k5 w5
  | false =>
    rw [if_neg Bool.false_ne_true]
    exact ok _ _ _ _ k3 (wd_ofl (w3.drop.drop))
theorem d_chain {op op' : CmpOp} {f g : F2} {r r' : R2} (ho : OpR X (compareOp op) r) (ho' : OpR X (compareOp op') r') (hr : RB X.K f r) (hr' : RB X.K g r') (ha : PD X W a α) (hb : PD X W b β) (hc : PD X W c γ)
    (hm : lastMarks [op, op'] [b, c] = false := by with_unfolding_all rfl) : PD X W (.Compare a [op, op'] [b, c] pos) (sChain f g α β γ) :=
  pe_weak (pe_chain ho ho' ha hb hc hm) fun _ _ _ h => chain_of hr hr' h
theorem d_tchain {op op' : CmpOp} {f g : F2} {r r' : R2} (ho : OpR X (compareOp op) r) (ho' : OpR X (compareOp op') r') (hr : RB X.K f r) (hr' : RB X.K g r') (ha : PD X W a α) (hb : PD X W b β) (hc : PD X W c γ)
    (hm : lastMarks [op, op'] [b, c] = false := by with_unfolding_all rfl) : PDB X W (.Compare a [op, op'] [b, c] pos) (sTest (sChain f g α β γ)) :=
  pt_weak (pt_chain ho ho' ha hb hc hm) fun _ _ _ h => chain_of hr hr' (test_of h)

/-! ### arguments -/
def sNil : SA := fun env k _ => k [] env
def sCons (α : SE) (γ : SA) : SA := fun env k e => α env (fun t env1 => γ env1 (fun as env2 => k (.v t :: as) env2) e) e
/-- a name's object, lent -/
def sLend (i : Nat) (γ : SA) : SA := fun env k e => match slot env i with
  | .gone => False
  | _ => γ env (fun as env2 => k (.l i :: as) env2) e
variable {g : SA}
theorem d_nil : PDA X W [] sNil := pa_weak pa_nil fun σ H Q ⟨env, R, k, e, w, h, ok, er⟩ => ok [] env [] H h (by
  show Wd H (emp • EnvA X.K env σ • R)
  rw [emp_star]
  exact w)
theorem d_cons (ha : PD X W a α) (hr : PDA X W es g) (hs : starEach (a :: es) X.env = (false, eval a X.env) :: starEach es X.env := by rfl) : PDA X W (a :: es) (sCons α g) :=
  pa_weak (pa_cons ha hr hs) fun σ H Q ⟨env, R, k, e, w, h, ok, er⟩ => ⟨env, R, _, e, w, h, fun t env1 x H1 k1 w1 =>
    ⟨env1, Rep X.K t x • R, _, e, w1.eq (by ac_rfl), k1, fun as env2 vs H2 k2 w2 => ok _ env2 (x :: vs) H2 k2 (by
      show Wd H2 ((Rep X.K t x • ArgA X.K σ as vs) • EnvA X.K env2 σ • R)
      exact w2.eq (by ac_rfl)), er.more⟩, er⟩
theorem d_lend {i : Nat} (ha : PE X a (tVar i)) (hr : PDA X W es g) (hs : starEach (a :: es) X.env = (false, eval a X.env) :: starEach es X.env := by rfl) : PDA X W (a :: es) (sLend i g) :=
  pa_weak (pa_cons ha hr hs) fun σ H Q ⟨env, R, k, e, w, h, ok, er⟩ => by
    have h2 : slot env i ≠ .gone ∧ g env (fun as env2 => k (.l i :: as) env2) e := by
      unfold sLend at h
      split at h
      · exact h.elim
      · rename_i z
        exact ⟨z, h⟩
    obtain ⟨v, hv, e2⟩ := wd_slot w (slot_get h2.1) h2.1
    refine ⟨v, hv, env, R, _, e, w, h2.2, fun as env2 vs H2 k2 w2 => ok _ env2 (v :: vs) H2 k2 ?_, er⟩
    show Wd H2 ((pu (σ[i]? = some (some v)) • ArgA X.K σ as vs) • EnvA X.K env2 σ • R)
    exact (Wd.puR hv w2).eq (by ac_rfl)
/-- all of them values -/
def allV : List Arg → (List T → Prop) → Prop
  | [], k => k []
  | .v t :: as, k => allV as fun ts => k (t :: ts)
  | .l _ :: _, _ => False
theorem allV_get {σ : L2.St} : ∀ {as : List Arg} {k : List T → Prop}, allV as k → ∃ ts, k ts ∧ ∀ vs, ArgA X.K σ as vs = RepL X.K ts vs
  | [], k, h => ⟨[], h, fun vs => by
    cases vs with
    | nil => simp only [RepL]; rfl
    | cons _ _ => simp only [RepL]; rfl⟩
  | .v t :: as, k, h => by
    obtain ⟨ts, h1, h2⟩ := allV_get (as := as) h
    refine ⟨t :: ts, h1, fun vs => ?_⟩
    cases vs with
    | nil => simp only [RepL]; rfl
    | cons v vs =>
      simp only [RepL]
      show Rep X.K t v • ArgA X.K σ as vs = _
      rw [h2]
  | .l _ :: _, _, h => h.elim

/-! ### tuples and lists -/
def allD : List T → Option (List D)
  | [] => some []
  | .d x :: ts => (allD ts).map (x :: ·)
  | _ :: _ => none
theorem allD_eq : ∀ {ts : List T} {ds : List D}, allD ts = some ds → ts = ds.map .d
  | [], ds, h => by
    simp only [allD, Option.some.injEq] at h
    subst h
    rfl
  | .d x :: ts, ds, h => by
    simp only [allD, Option.map_eq_some_iff] at h
    obtain ⟨es, h1, rfl⟩ := h
    rw [allD_eq h1]
    rfl
  | .gone :: _, _, h => by simp [allD] at h
  | .tup _ :: _, _, h => by simp [allD] at h
  | .lst _ :: _, _, h => by simp [allD] at h
  | .dK _ _ :: _, _, h => by simp [allD] at h
  | .dT _ _ :: _, _, h => by simp [allD] at h
  | .ins _ _ _ :: _, _, h => by simp [allD] at h
theorem allD_map : ∀ ds : List D, allD (ds.map .d) = some ds
  | [] => rfl
  | d :: ds => by simp only [List.map_cons, allD, allD_map ds, Option.map_some]
theorem RepL_d {K : PySem.W.Frag} : ∀ {ds : List D} {vs : List V} {G h : Hp}, (RepL K (ds.map .d) vs).P G h ↔ h = Hp0 ∧ DenL K G ds vs
  | [], [], G, h => by
    simp only [List.map_nil, RepL, DenL, and_true]
    exact Iff.rfl
  | [], _ :: _, G, h => by
    simp only [List.map_nil, RepL, DenL, and_false]
    exact Iff.rfl
  | _ :: _, [], G, h => by
    simp only [List.map_cons, RepL, DenL, and_false]
    exact Iff.rfl
  | d :: ds, v :: vs, G, h => by
    simp only [List.map_cons, RepL, DenL]
    constructor
    · rintro ⟨h1, h2, s, a, b⟩
      rw [kn_den] at a
      rw [RepL_d] at b
      obtain ⟨rfl, a⟩ := a
      obtain ⟨rfl, b⟩ := b
      refine ⟨?_, a, b⟩
      rw [s.eq]
      rfl
    · rintro ⟨rfl, a, b⟩
      exact ⟨Hp0, Hp0, spl_empty _, kn_den.mpr ⟨rfl, a⟩, RepL_d.mpr ⟨rfl, b⟩⟩
/-- a tuple of these: stable where they are -/
def mkTup (ts : List T) : T := match allD ts with
  | some ds => .d (.tup ds)
  | none => .tup ts
theorem wd_mkTup {K : PySem.W.Frag} {H : Hp} {ts : List T} {vs : List V} {A : Asn} {p : Addr} (w : Wd H (kn (fun G => TupA K G p vs) • RepL K ts vs • A)) : Wd H (Rep K (mkTup ts) (.ref p) • A) := by
  unfold mkTup
  cases e : allD ts with
  | some ds =>
    rw [allD_eq e] at w
    have w2 : Wd H ((kn (fun G => TupA K G p vs) • RepL K (ds.map .d) vs) • A) := w.eq (by ac_rfl)
    refine w2.impL fun G h q => ?_
    obtain ⟨h1, h2, s, ⟨rfl, a⟩, b⟩ := q
    rw [RepL_d] at b
    obtain ⟨rfl, b⟩ := b
    rw [kn_den]
    refine ⟨?_, ?_⟩
    · rw [s.eq]
      rfl
    · simp only [Den]
      exact ⟨p, vs, rfl, a G (Same.refl G), b⟩
  | none =>
    simp only [Rep]
    refine Wd.exR p (Wd.exR vs ?_)
    exact (Wd.puR rfl w).eq (by ac_rfl)
/-- a list that is owned -/
theorem wd_lst {K : PySem.W.Frag} {H : Hp} {ts : List T} {vs : List V} {A : Asn} {p : Addr} (w : Wd H (pt p (.lst vs) • RepL K ts vs • A)) : Wd H (Rep K (.lst ts) (.ref p) • A) := by
  simp only [Rep]
  refine Wd.exR p (Wd.exR vs ?_)
  exact (Wd.puR rfl w).eq (by ac_rfl)
theorem wd_unlst {K : PySem.W.Frag} {H : Hp} {ts : List T} {v : V} {A : Asn} (w : Wd H (Rep K (.lst ts) v • A)) : ∃ p vs, v = .ref p ∧ Wd H (pt p (.lst vs) • RepL K ts vs • A) := by
  simp only [Rep] at w
  obtain ⟨p, w⟩ := w.exL
  obtain ⟨vs, w⟩ := w.exL
  have w2 : Wd H (pu (v = .ref p) • (pt p (.lst vs) • RepL K ts vs • A)) := w.eq (by ac_rfl)
  exact ⟨p, vs, w2.puL.1, w2.puL.2⟩
theorem wd_newTup {K : PySem.W.Frag} {H : Hp} {vs : List V} {A : Asn} {p : Addr} (w : Wd H A) (n : H p = none) : Wd (upd H p (.tup vs)) (kn (fun G => TupA K G p vs) • A) := wd_know (w.lay n) fun G q => .inl q
theorem le_line {n : Nat} (h : Nat.ble n 1000 = true) : n ≤ sizeLine := Nat.le_trans (Nat.le_of_ble_eq_true h) (by decide)
def sTup (g : SA) : SE := fun env k e => g env (fun as env1 => allV as fun ts => ifT (Nat.ble ts.length 1000) (k (mkTup ts) env1)) e
def sLst (g : SA) : SE := fun env k e => g env (fun as env1 => allV as fun ts => ifT (Nat.ble ts.length 1000) (k (.lst ts) env1)) e
theorem d_tup {x1 : Nat} (h : PDA X W es g) : PD X W (.Tuple es x1 pos) (sTup g) :=
  pe_weak (pe_tup h) fun σ H Q ⟨env, R, k, e, w, h, ok, er⟩ => ⟨env, R, _, e, w, h, fun as env1 vs H1 k1 w1 => by
    obtain ⟨ts, k0, e2⟩ := allV_get (σ := σ) (X := X) k1
    obtain ⟨hl, k1⟩ := ifT_get k0
    rw [e2] at w1
    have hl2 := w1.lenL
    refine ⟨by rw [← hl2]; exact le_line hl, fun p hp => ok _ env1 _ _ k1 ?_⟩
    exact wd_mkTup (wd_newTup w1 hp), er⟩
theorem d_lst (h : PDA X W es g) : PD X W (.List es pos) (sLst g) :=
  pe_weak (pe_lst h) fun σ H Q ⟨env, R, k, e, w, h, ok, er⟩ => ⟨env, R, _, e, w, h, fun as env1 vs H1 k1 w1 => by
    obtain ⟨ts, k0, e2⟩ := allV_get (σ := σ) (X := X) k1
    obtain ⟨hl, k1⟩ := ifT_get k0
    rw [e2] at w1
    have hl2 := w1.lenL
    refine ⟨by rw [← hl2]; exact le_line hl, fun p hp => ok _ env1 _ _ k1 ?_⟩
    exact wd_lst (w1.alloc hp fun xs z => by cases z), er⟩

/-! ### calls of what is built in -/
abbrev FC := List T → (T → Prop) → Prop
def RC (K : PySem.W.Frag) (f : FC) (r : List V → Hp → VK → Prop) : Prop := ∀ (ts : List T) (vs : List V) (H : Hp) (A : Asn) (k : T → Prop) (Q : VK), Wd H (RepL K ts vs • A) → f ts k → (∀ t v H', k t → Wd H' (Rep K t v • A) → Q v H') → r vs H Q
def sCB (f : FC) (g : SA) : SE := fun env k e => g env (fun as env1 => allV as fun ts => f ts fun t => k t env1) e
theorem cb_of {f : FC} {r : List V → Hp → VK → Prop} (hr : RC X.K f r) {σ : L2.St} {H : Hp} {Q : VK} (h : tE X.K W (sCB f g) σ H Q) : tCB r (tA X.K W g) σ H Q := by
  obtain ⟨env, R, k, e, w, q, ok, er⟩ := h
  refine ⟨env, R, _, e, w, q, fun as env1 vs H1 k1 w1 => ?_, er⟩
  obtain ⟨ts, k1, e2⟩ := allV_get (σ := σ) (X := X) k1
  rw [e2] at w1
  exact hr ts vs H1 _ _ Q w1 k1 fun t v H' k2 w2 => ok t env1 v H' k2 w2
variable {x : Str} {f : FC} {r : List V → Hp → VK → Prop} {p1 : Pos}
theorem d_callB {id : String} (hc : CallR X (.builtin id) r) (hr : RC X.K f r) (hg : Gl X x) (hm : X.mg x = none) (hv : bootBuiltins x = some (.builtin id)) (ha : PDA X W (a :: es) g) (hn : x ≠ "__name__" := by decide) (hdb : (x == ("__debug__" : Str)) = false := by decide)
    (he : starEach (a :: es) X.env = (false, eval a X.env) :: starEach es X.env := by rfl) (hpl : (backTo pos (starEach es X.env)).any (·.1) = false := by rfl) : PD X W (.Call (.Name x p1) (a :: es) [] pos) (sCB f g) :=
  pe_weak (pe_callB hc hg hm hv ha hn hdb he hpl) fun _ _ _ h => cb_of hr h
theorem d_callTy {Ty : String} (hc : CallR X (.type Ty) r) (hr : RC X.K f r) (hg : Gl X x) (hm : X.mg x = none) (hv : bootBuiltins x = some (.type Ty)) (ha : PDA X W (a :: es) g) (hn : x ≠ "__name__" := by decide) (hdb : (x == ("__debug__" : Str)) = false := by decide)
    (he : starEach (a :: es) X.env = (false, eval a X.env) :: starEach es X.env := by rfl) (hpl : (backTo pos (starEach es X.env)).any (·.1) = false := by rfl) : PD X W (.Call (.Name x p1) (a :: es) [] pos) (sCB f g) :=
  pe_weak (pe_callTy hc hg hm hv ha hn hdb he hpl) fun _ _ _ h => cb_of hr h
/-! subscripts -/
theorem d_ix {f : F2} {r : R2} (ho : IxR X r) (hr : RB X.K f r) (ha : PD X W a α) (hb : PD X W b β) (hs : PlainIx b := by exact fun _ _ => rfl) : PD X W (.Subscript a b pos) (sBin f α β) :=
  pe_weak (pe_ix ho ha hb hs) fun _ _ _ h => op_of hr h
end
end WC

/-! WLf: statements, loops, comprehensions, defs. -/
namespace WC
open PySem PySem.Spec PyProof.Rows L2
/-- but at the slots of B nothing has changed -/
def Kp (B : Nat → Bool) (σ σ' : L2.St) : Prop := σ'.length = σ.length ∧ ∀ j, B j = false → σ'[j]? = σ[j]?
theorem Kp.refl {B : Nat → Bool} {σ : L2.St} : Kp B σ σ := ⟨rfl, fun _ _ => rfl⟩
theorem Kp.trans {B : Nat → Bool} {σ σ' σ'' : L2.St} (a : Kp B σ σ') (b : Kp B σ' σ'') : Kp B σ σ'' := ⟨b.1.trans a.1, fun j h => (b.2 j h).trans (a.2 j h)⟩
theorem Kp.set {B : Nat → Bool} {σ : L2.St} {i : Nat} {v : Option V} (h : B i = true) : Kp B σ (σ.set i v) := ⟨List.length_set, fun j hj => List.getElem?_set_ne (fun e => by rw [e, hj] at h; cases h)⟩
section
variable (K : PySem.W.Frag) (W : WX) (B : Nat → Bool)
structure OkS (σ : L2.St) (R : Asn) (E : EndT) (D : Ends) : Prop where
  nx : ∀ env σ' H, E.nx env → Kp B σ σ' → Wd H (EnvA K env σ' • R) → D.nx σ' H
  rt : ∀ t env σ' v H, E.rt t env → Kp B σ σ' → Wd H (Rep K t v • EnvA K env σ' • R) → D.rt v H
  bk : ∀ env σ' H, E.bk env → Kp B σ σ' → Wd H (EnvA K env σ' • R) → D.bk σ' H
  ct : ∀ env σ' H, E.ct env → Kp B σ σ' → Wd H (EnvA K env σ' • R) → D.ct σ' H
  er : ∀ x env σ' cls d H, E.ex x env → Kp B σ σ' → Wd H (ExnA K x cls d • EnvA K env σ' • R) → W cls d σ' H
def tS (δ : SS) : TS := fun D σ H => ∃ env R E, Wd H (EnvA K env σ • R) ∧ δ E env ∧ OkS K W B σ R E D
def tG (g : STG) : TG := fun v σ H Q => ∃ t env R k, Wd H (Rep K t v • EnvA K env σ • R) ∧ g t env k ∧ ∀ env' σ' H', k env' → Kp B σ σ' → Wd H' (EnvA K env' σ' • R) → Q σ' H'
abbrev STGs := List T → Nv → (Nv → Prop) → Prop
def tGs (g : STGs) : TGs := fun vs σ H Q => ∃ ts env R k, Wd H (RepL K ts vs • EnvA K env σ • R) ∧ g ts env k ∧ ∀ env' σ' H', k env' → Kp B σ σ' → Wd H' (EnvA K env' σ' • R) → Q σ' H'
end
section
variable {K : PySem.W.Frag} {W : WX} {B : Nat → Bool} {σ σ' : L2.St} {R A : Asn} {E : EndT} {D : Ends}
theorem OkS.mid (ok : OkS K W B σ R E D) (h : Kp B σ σ') : OkS K W B σ' R E D :=
  ⟨fun env s H q k w => ok.nx env s H q (h.trans k) w, fun t env s v H q k w => ok.rt t env s v H q (h.trans k) w, fun env s H q k w => ok.bk env s H q (h.trans k) w, fun env s H q k w => ok.ct env s H q (h.trans k) w,
    fun x env s cls d H q k w => ok.er x env s cls d H q (h.trans k) w⟩
theorem OkS.ee (ok : OkS K W B σ R E D) : ErE K W σ R E.ex := fun x env cls d H q w => ok.er x env σ cls d H q Kp.refl w
theorem wd_under {H : Hp} {A B C : Asn} {P Q : Asn} (w : Wd H (P • Q • A • C)) : Wd H (P • Q • C) := by
  have w2 : Wd H (A • (P • Q • C)) := w.eq (by ac_rfl)
  exact w2.drop
theorem OkS.more (ok : OkS K W B σ R E D) : OkS K W B σ (A • R) E D :=
  ⟨fun env s H q k w => ok.nx env s H q k (by
    have w2 : Wd H (A • (EnvA K env s • R)) := w.eq (by ac_rfl)
    exact w2.drop), fun t env s v H q k w => ok.rt t env s v H q k (wd_under (B := A) w), fun env s H q k w => ok.bk env s H q k (by
    have w2 : Wd H (A • (EnvA K env s • R)) := w.eq (by ac_rfl)
    exact w2.drop), fun env s H q k w => ok.ct env s H q k (by
    have w2 : Wd H (A • (EnvA K env s • R)) := w.eq (by ac_rfl)
    exact w2.drop), fun x env s cls d H q k w => ok.er x env s cls d H q k (wd_under (B := A) w)⟩
end
def PDS (X : Cx) (W : WX) (B : Nat → Bool) (st : Stmt) (δ : SS) : Prop := PS X st (tS X.K W B δ)
def PDSs (X : Cx) (W : WX) (B : Nat → Bool) (st : List Stmt) (δ : SS) : Prop := PSs X st (tS X.K W B δ)
def PDG (X : Cx) (B : Nat → Bool) (tg : Expr) (g : STG) : Prop := PG X tg (tG X.K B g)
def PDGs (X : Cx) (B : Nat → Bool) (tgs : List Expr) (g : STGs) : Prop := PGs X tgs (tGs X.K B g)
theorem ps_weak {X : Cx} {e : Stmt} {t t' : TS} (h : PS X e t) (f : ∀ D σ H, t' D σ H → t D σ H) : PS X e t' := ⟨fun pins s σ H D I q => h.run pins s σ H D I (f _ _ _ q)⟩
theorem pss_weak {X : Cx} {e : List Stmt} {t t' : TS} (h : PSs X e t) (f : ∀ D σ H, t' D σ H → t D σ H) : PSs X e t' := ⟨fun pins s σ H D I q => h.run pins s σ H D I (f _ _ _ q)⟩
theorem pg_weak {X : Cx} {e : Expr} {t t' : TG} (h : PG X e t) (f : ∀ v σ H Q, t' v σ H Q → t v σ H Q) : PG X e t' := ⟨fun pins s σ H v u Q I r q => h.run pins s σ H v u Q I r (f _ _ _ _ q)⟩
theorem pgs_weak {X : Cx} {e : List Expr} {t t' : TGs} (h : PGs X e t) (f : ∀ v σ H Q, t' v σ H Q → t v σ H Q) : PGs X e t' := ⟨fun pins s σ H v u Q I r q => h.run pins s σ H v u Q I r (f _ _ _ _ q)⟩
section
variable {X : Cx} {W : WX} {B : Nat → Bool} {st : Stmt} {rest body : List Stmt} {a c iter tg : Expr} {es : List Expr} {α β : SE} {p : SB} {δ δ' : SS} {g : STG} {gs : STGs} {pos : Pos}
def sSkip : SS := fun E env => E.nx env
def sSeq (δ δ' : SS) : SS := fun E env => δ ⟨δ' E, E.rt, E.bk, E.ct, E.ex⟩ env
theorem d_skip : PDSs X W B [] sSkip := pss_weak pss_nil fun D σ H ⟨env, R, E, w, h, ok⟩ => ok.nx env σ H h Kp.refl w
theorem d_seq (h1 : PDS X W B st δ) (h2 : PDSs X W B rest δ') : PDSs X W B (st :: rest) (sSeq δ δ') :=
  pss_weak (pss_cons h1 h2) fun D σ H ⟨env, R, E, w, h, ok⟩ => ⟨env, R, _, w, h, fun env' σ' H' q k w' => ⟨env', R, E, w', q, ok.mid k⟩, ok.rt, ok.bk, ok.ct, ok.er⟩
theorem d_last (h1 : PDS X W B st δ) : PDSs X W B [st] δ := pss_one h1
theorem d_pass : PDS X W B (.Pass pos) sSkip := ps_weak ps_pass fun D σ H ⟨env, R, E, w, h, ok⟩ => ok.nx env σ H h Kp.refl w
def sDrop (α : SE) : SS := fun E env => α env (fun _ env' => E.nx env') E.ex
theorem d_drop (h : PD X W a α) (hs : swapsWith a none pos.line X.env = pure false := by rfl) : PDS X W B (.Expr a pos) (sDrop α) :=
  ps_weak (ps_expr h hs) fun D σ H ⟨env, R, E, w, h, ok⟩ => ⟨env, R, _, _, w, h, fun t env' v H' q w' => ok.nx env' σ H' q Kp.refl w'.drop, ok.ee⟩
def sRet (α : SE) : SS := fun E env => α env E.rt E.ex
def sRetN : SS := fun E env => E.rt .non env
theorem d_ret (h : PD X W a α) : PDS X W B (.Return (some a) pos) (sRet α) :=
  ps_weak (ps_ret h) fun D σ H ⟨env, R, E, w, h, ok⟩ => ⟨env, R, _, _, w, h, fun t env' v H' q w' => ok.rt t env' σ v H' q Kp.refl w', ok.ee⟩
theorem d_retN : PDS X W B (.Return none pos) sRetN := ps_weak ps_retN fun D σ H ⟨env, R, E, w, h, ok⟩ => ok.rt _ env σ _ H h Kp.refl (wd_ofl w)
def sIfS (p : SB) (δ δ' : SS) : SS := fun E env => p env (fun b env' => wh b (δ E env') (δ' E env')) E.ex
theorem d_ifS {o : List Stmt} (hc : PDB X W c p) (h1 : PDSs X W B body δ) (h2 : PDSs X W B o δ') : PDS X W B (.If c body o pos) (sIfS p δ δ') :=
  ps_weak (ps_if hc h1 h2) fun D σ H ⟨env, R, E, w, h, ok⟩ => ⟨env, R, _, _, w, h, fun b env' H' q w' => by
    cases b with
    | true =>
      rw [if_pos rfl]
      exact ⟨env', R, E, w', q, ok⟩
    | false =>
      rw [if_neg Bool.false_ne_true]
      exact ⟨env', R, E, w', q, ok⟩, ok.ee⟩
def sNever : SS := fun _ _ => False
theorem d_never : PDS X W B st sNever := ps_weak ps_never fun D σ H ⟨env, R, E, w, h, ok⟩ => h
theorem d_nevers : PDSs X W B rest sNever := pss_weak pss_never fun D σ H ⟨env, R, E, w, h, ok⟩ => h

/-! ### targets -/
def gN (i : Nat) : STG := fun t env k => force (env.set i t) k
theorem wd_set {K : PySem.W.Frag} {H : Hp} {t : T} {v : V} {env : Nv} {σ : L2.St} {R : Asn} {i : Nat} (w : Wd H (Rep K t v • EnvA K env σ • R)) : Wd H (EnvA K (env.set i t) (σ.set i (some v)) • R) := by
  by_cases hi : i < env.length
  · have hl : env.length = σ.length := by
      have w2 : Wd H (EnvA K env σ • (Rep K t v • R)) := w.eq (by ac_rfl)
      exact w2.len
    have hs : i < σ.length := by omega
    rw [EnvA_put hi hs]
    have e : EnvA K env σ = SlotA K env[i] σ[i] • EnvA K (env.set i .gone) σ := EnvA_take (List.getElem?_eq_getElem hi) (List.getElem?_eq_getElem hs)
    rw [e] at w
    have w2 : Wd H (SlotA K env[i] σ[i] • (Rep K t v • EnvA K (env.set i .gone) σ • R)) := w.eq (by ac_rfl)
    exact w2.drop.eq (by ac_rfl)
  · have hl : env.length = σ.length := by
      have w2 : Wd H (EnvA K env σ • (Rep K t v • R)) := w.eq (by ac_rfl)
      exact w2.len
    rw [List.set_eq_of_length_le (by omega), List.set_eq_of_length_le (by omega)]
    exact w.drop
theorem d_gN {i : Nat} (hB : B i = true) (h : PG X tg (gName i)) : PDG X B tg (gN i) :=
  pg_weak h fun v σ H Q ⟨t, env, R, k, w, h, ok⟩ => ok _ _ H (force_mp h) (Kp.set hB) (wd_set w)
def gNil : STGs := fun ts env k => match ts with
  | [] => k env
  | _ :: _ => False
def gCons (g : STG) (gs : STGs) : STGs := fun ts env k => match ts with
  | t :: r => g t env fun env' => gs r env' k
  | [] => False
theorem d_gnil : PDGs X B [] gNil := pgs_weak pgs_nil fun vs σ H Q ⟨ts, env, R, k, w, h, ok⟩ => by
  cases ts with
  | nil =>
    cases vs with
    | nil =>
      refine ⟨rfl, ok env σ H h Kp.refl ?_⟩
      rw [RepL_nil, emp_star] at w
      exact w
    | cons v vs =>
      have hl := w.lenL
      simp at hl
  | cons t r => exact h.elim
theorem d_gcons (h1 : PDG X B a g) (h2 : PDGs X B es gs) (hs : (assignEach (a :: es) X.env).map (·.2) = assign a X.env :: (assignEach es X.env).map (·.2) := by rfl) : PDGs X B (a :: es) (gCons g gs) :=
  pgs_weak (pgs_cons h1 h2 hs) fun vs σ H Q ⟨ts, env, R, k, w, h, ok⟩ => by
    cases ts with
    | nil => exact h.elim
    | cons t r =>
      cases vs with
      | nil =>
        have hl := w.lenL
        simp at hl
      | cons v vs =>
        rw [RepL_cons] at w
        refine ⟨v, vs, rfl, t, env, RepL X.K r vs • R, _, w.eq (by ac_rfl), h, fun env' σ' H' q kp w' => ?_⟩
        exact ⟨r, env', R, k, w'.eq (by ac_rfl), q, fun env2 σ2 H2 q2 kp2 w2 => ok env2 σ2 H2 q2 (kp.trans kp2) w2⟩
/-- the items of a tuple -/
def asU (t : T) (k : List T → Prop) : Prop := match t with
  | .d (.tup ds) => k (ds.map .d)
  | .tup ts => k ts
  | _ => False
theorem wd_untup {K : PySem.W.Frag} {H : Hp} {t : T} {v : V} {A : Asn} {k : List T → Prop} (h : asU t k) (w : Wd H (Rep K t v • A)) : ∃ p ts vs, v = .ref p ∧ SqT K H p vs ∧ k ts ∧ Wd H (RepL K ts vs • A) ∧ ts.length = vs.length := by
  unfold asU at h
  split at h
  · rename_i ds
    obtain ⟨G, h1, a, b, c, d, x, y, s, q, z⟩ := w
    rw [kn_den] at q
    obtain ⟨rfl, q⟩ := q
    simp only [Den] at q
    obtain ⟨p, vs, e, hT, hL⟩ := q
    exact ⟨p, ds.map .d, vs, e, (hT.same a).sq, h, ⟨G, h1, a, b, c, d, Hp0, y, s, RepL_d.mpr ⟨rfl, hL⟩, z⟩, by rw [List.length_map]; exact DenL_len hL⟩
  · rename_i ts
    simp only [Rep] at w
    obtain ⟨p, w⟩ := w.exL
    obtain ⟨vs, w⟩ := w.exL
    have w2 : Wd H (pu (v = .ref p) • (kn (fun G => TupA K G p vs) • (RepL K ts vs • A))) := w.eq (by ac_rfl)
    have w3 := w2.puL.2
    exact ⟨p, ts, vs, w2.puL.1, w3.knL.sq, h, w3.knD, w3.knD.lenL⟩
  · exact h.elim
end
end WC

/-! WLg: assignments, for, while, comprehensions, defs. -/
namespace WC
open PySem PySem.Spec PyProof.Rows L2
section
variable {X : Cx} {W : WX} {B : Nat → Bool} {st : Stmt} {rest body : List Stmt} {a b c iter tg : Expr} {es : List Expr} {α β : SE} {p : SB} {δ δ' : SS} {g : STG} {gs : STGs} {pos : Pos}
/-- a, b = a tuple of n -/
def gT (n : Nat) (gs : STGs) : STG := fun t env k => asU t fun ts => ifT (Nat.beq ts.length n) (gs ts env k)
theorem d_gT {n k : Nat} (hc : X.calm = true) (h : PDGs X B es gs) (hn : (assignEach es X.env).length = n := by rfl) (hst : (assignEach es X.env).findIdx? (·.1) = none := by rfl) : PDG X B (.Tuple es k pos) (gT n gs) :=
  pg_weak (pg_tup hc h hn hst) fun v σ H Q ⟨t, env, R, k, w, h, ok⟩ => by
    obtain ⟨p, ts, vs, e, hT, h0, w2, hl2⟩ := wd_untup h w
    obtain ⟨hl, h2⟩ := ifT_get h0
    have hl := Nat.eq_of_beq_eq_true hl
    exact ⟨p, vs, e, hT, by rw [← hl2]; exact hl, ts, env, R, k, w2, h2, ok⟩
def asL (t : T) (k : List T → Prop) : Prop := match t with
  | .lst ts => k ts
  | _ => False
theorem asL_get {t : T} {k : List T → Prop} (h : asL t k) : ∃ ts, t = .lst ts ∧ k ts := by
  unfold asL at h
  split at h
  · exact ⟨_, rfl, h⟩
  · exact h.elim
def asI (t : T) (k : Int → Prop) : Prop := match t with
  | .d (.fl (.int i)) => k i
  | _ => False
theorem asI_get {t : T} {k : Int → Prop} (h : asI t k) : ∃ i, t = .int i ∧ k i := by
  unfold asI at h
  split at h
  · exact ⟨_, rfl, h⟩
  · exact h.elim
def asN (o : Option Nat) (k : Nat → Prop) : Prop := match o with
  | some n => k n
  | none => False
theorem asN_get {o : Option Nat} {k : Nat → Prop} (h : asN o k) : ∃ n, o = some n ∧ k n := by
  cases o with
  | some n => exact ⟨n, rfl, h⟩
  | none => exact h.elim
/-- x[β] = t, x an owned list in slot i -/
def gSetL (i : Nat) (β : SE) : STG := fun t env k => asL (slot env i) fun _ => β env (fun tj env1 => asI tj fun j => asL (slot env1 i) fun ts => asN (ixN ts.length j) fun m => force (env1.set i (.lst (ts.set m t))) k) (fun _ _ => False)
theorem RepL_take {K : PySem.W.Frag} : ∀ {ts : List T} {vs : List V} {i : Nat} {t : T} {v : V}, ts[i]? = some t → vs[i]? = some v → RepL K ts vs = Rep K t v • RepL K (ts.set i .gone) vs
  | [], _, _, _, _, h, _ => by simp at h
  | _ :: _, [], _, _, _, _, h => by simp at h
  | u :: ts, y :: vs, 0, t, v, h1, h2 => by
    simp only [List.getElem?_cons_zero, Option.some.injEq] at h1 h2
    subst h1
    subst h2
    rw [List.set_cons_zero, RepL_cons, RepL_cons]
    have e : Rep K .gone y = emp := by simp only [Rep]
    rw [e, emp_star]
  | u :: ts, y :: vs, i + 1, t, v, h1, h2 => by
    simp only [List.getElem?_cons_succ] at h1 h2
    rw [List.set_cons_succ, RepL_cons, RepL_cons, RepL_take h1 h2, star_left]
theorem RepL_put {K : PySem.W.Frag} : ∀ {ts : List T} {vs : List V} {i : Nat} {t : T} {v : V}, i < ts.length → i < vs.length → RepL K (ts.set i t) (vs.set i v) = Rep K t v • RepL K (ts.set i .gone) vs
  | [], _, _, _, _, h, _ => by simp at h
  | _ :: _, [], _, _, _, _, h => by simp at h
  | u :: ts, y :: vs, 0, t, v, h1, h2 => by
    rw [List.set_cons_zero, List.set_cons_zero, List.set_cons_zero, RepL_cons, RepL_cons]
    have e : Rep K .gone y = emp := by simp only [Rep]
    rw [e, emp_star]
  | u :: ts, y :: vs, i + 1, t, v, h1, h2 => by
    simp only [List.length_cons, Nat.add_lt_add_iff_right] at h1 h2
    rw [List.set_cons_succ, List.set_cons_succ, List.set_cons_succ, RepL_cons, RepL_cons, RepL_put h1 h2, star_left]
theorem ixN_lt {n m : Nat} {j : Int} (h : ixN n j = some m) : m < n := (ixN_seq h).2.1
/-- an owned list in a slot, opened -/
theorem wd_slotL {K : PySem.W.Frag} {H : Hp} {env : Nv} {σ : L2.St} {R : Asn} {i : Nat} {ts : List T} (w : Wd H (EnvA K env σ • R)) (h : slot env i = .lst ts) :
    ∃ q vs, σ[i]? = some (some (.ref q)) ∧ Wd H (pt q (.lst vs) • RepL K ts vs • EnvA K (env.set i .gone) σ • R) ∧ ∀ ts' vs' H', Wd H' (pt q (.lst vs') • RepL K ts' vs' • EnvA K (env.set i .gone) σ • R) → Wd H' (EnvA K (env.set i (.lst ts')) σ • R) := by
  have hg : slot env i ≠ .gone := by rw [h]; intro z; cases z
  have hs := slot_get hg
  obtain ⟨v, hv, e2⟩ := wd_slot w hs hg
  rw [e2, h] at w
  obtain ⟨q, vs, rfl, w2⟩ := wd_unlst (w.eq (star_assoc _ _ _))
  refine ⟨q, vs, hv, w2, fun ts' vs' H' w3 => ?_⟩
  rw [EnvA_back hv (List.getElem?_eq_some_iff.mp hs).1]
  exact (wd_lst w3).eq (by ac_rfl)
theorem d_gSetL {i : Nat} (h : PG X tg (gSub (tVar i) (tE X.K (fun _ _ _ _ => False) β) rSetL)) : PDG X B tg (gSetL i β) :=
  pg_weak h fun v σ H Q ⟨t, env, R, k, w, h, ok⟩ => by
    have w1 : Wd H (EnvA X.K env σ • (Rep X.K t v • R)) := w.eq (by ac_rfl)
    obtain ⟨ts0, e0, h⟩ := asL_get h
    have hg0 : slot env i ≠ .gone := by rw [e0]; intro z; cases z
    obtain ⟨x, hx, _⟩ := wd_slot w1 (slot_get hg0) hg0
    · refine ⟨x, hx, env, Rep X.K t v • R, _, _, w1, h, fun tj env1 y H1 k1 w2 => ?_, ErE.no⟩
      obtain ⟨j, rfl, k1⟩ := asI_get k1
      obtain ⟨ts, e, k1⟩ := asL_get k1
      obtain ⟨m, em, k1⟩ := asN_get k1
      obtain rfl := wd_fl w2
      obtain ⟨q, vs, hq, w3, back⟩ := wd_slotL (w2.drop) e
      rw [hx] at hq
      cases hq
      have hl : ts.length = vs.length := (w3.drop).lenL
      refine ⟨q, vs, j, m, rfl, rfl, w3.get, by rw [← hl]; exact em, ok _ σ _ (force_mp k1) Kp.refl ?_⟩
      have hm := ixN_lt em
      have e3 : RepL X.K ts vs = Rep X.K ts[m] vs[m] • RepL X.K (ts.set m .gone) vs := RepL_take (List.getElem?_eq_getElem hm) (List.getElem?_eq_getElem (by omega))
      have w4 := w3.write (o' := .lst (vs.set m v)) fun xs z => by cases z
      rw [e3] at w4
      have w5 : Wd (upd H1 q (.lst (vs.set m v))) (Rep X.K ts[m] vs[m] • (pt q (.lst (vs.set m v)) • (Rep X.K t v • RepL X.K (ts.set m .gone) vs) • EnvA X.K (env1.set i .gone) σ • R)) := w4.eq (by ac_rfl)
      have w6 := w5.drop
      rw [← RepL_put hm (by omega)] at w6
      have hg : slot env1 i ≠ .gone := by rw [e]; intro z; cases z
      have hs := slot_get hg
      rw [EnvA_back hx (List.getElem?_eq_some_iff.mp hs).1]
      exact (wd_lst w6).eq (by ac_rfl)
/-! assignments -/
def sAsg (α : SE) (g : STG) : SS := fun E env => α env (fun t env1 => g t env1 E.nx) E.ex
theorem asg_of {D : Ends} {σ : L2.St} {H : Hp} (h : tS X.K W B (sAsg α g) D σ H) : tAsg (tE X.K W α) (tG X.K B g) D σ H := by
  obtain ⟨env, R, E, w, h, ok⟩ := h
  exact ⟨env, R, _, _, w, h, fun t env1 v H1 k1 w1 => ⟨t, env1, R, _, w1, k1, fun env' σ' H' q kp w' => ok.nx env' σ' H' q kp w'⟩, ok.ee⟩
theorem d_asg (he : PD X W a α) (hg : PDG X B tg g) (hs : swapsWithSole [tg] a pos.line X.env = pure false := by rfl) (hw : swappedStores [tg] a X.env = pure none := by rfl) (h1 : (assignEach [tg] X.env).map (·.2) = [assign tg X.env] := by rfl) : PDS X W B (.Assign [tg] a pos) (sAsg α g) :=
  ps_weak (ps_asg he hg hs hw h1) fun _ _ _ h => asg_of h
theorem d_set {i : Nat} {x : Str} {pos' : Pos} (hB : B i = true) (hN : X.N.Nodup) (hi : X.N[i]? = some x) (hx : Loc X.env.scope x) (he : PD X W a α) (hs : swapsWith a (some (.Name x pos')) pos.line X.env = pure false := by rfl)
    (hf : X.fn x = true ∨ X.env.scope.names.lookup x = some .local := by first | exact .inl rfl | exact .inr rfl | assumption) : PDS X W B (.Assign [.Name x pos'] a pos) (sAsg α (gN i)) :=
  ps_weak (ps_set hN hi hx he hs hf) fun D σ H ⟨env, R, E, w, h, ok⟩ => ⟨env, R, _, _, w, h, fun t env1 v H1 k1 w1 => ok.nx _ _ _ (force_mp k1) (Kp.set hB) (wd_set w1), ok.ee⟩
def sPar2 (i j : Nat) (g : SA) : SS := fun E env => g env (fun as env1 => allV as fun ts => match ts with
  | [t, u] => force ((env1.set i t).set j u) E.nx
  | _ => False) E.ex
theorem d_par2 {i j : Nat} {x y : Str} {px py pt' : Pos} {kt k2 : Nat} {pt2 : Pos} {γ : SA} (hBi : B i = true) (hBj : B j = true) (hc : X.calm = true) (hN : X.N.Nodup) (hi : X.N[i]? = some x) (hj : X.N[j]? = some y) (hij : i ≠ j)
    (hx : X.env.scope.names.lookup x = some .local) (hy : X.env.scope.names.lookup y = some .local) (ha : PDA X W [a, b] γ)
    (hw : swappedStores [.Tuple [.Name x px, .Name y py] kt pt'] (.Tuple [a, b] k2 pt2) X.env = pure (some [x, y]) := by rfl)
    (hs : swapsWithSole [.Tuple [.Name x px, .Name y py] kt pt'] (.Tuple [a, b] k2 pt2) pos.line X.env = pure false := by rfl) :
    PDS X W B (.Assign [.Tuple [.Name x px, .Name y py] kt pt'] (.Tuple [a, b] k2 pt2) pos) (sPar2 i j γ) :=
  ps_weak (ps_par hc hN hi hj hij hx hy ha hw hs) fun D σ H ⟨env, R, E, w, h, ok⟩ => ⟨env, R, _, _, w, h, fun as env1 vs H1 k1 w1 => by
    obtain ⟨ts, k1, e2⟩ := allV_get (σ := σ) (X := X) k1
    rw [e2] at w1
    have hl := w1.lenL
    split at k1
    · rename_i t u
      match vs, hl with
      | [v, w'], _ =>
        refine ⟨v, w', rfl, ok.nx _ _ _ (force_mp k1) ((Kp.set hBi).trans (Kp.set hBj)) ?_⟩
        rw [RepL_cons, RepL_cons, RepL_nil, star_emp] at w1
        have w2 : Wd H1 (Rep X.K t v • EnvA X.K env1 σ • (Rep X.K u w' • R)) := w1.eq (by ac_rfl)
        have w3 := wd_set (i := i) w2
        exact wd_set (w3.eq (by ac_rfl))
    · exact k1.elim, ok.ee⟩
def sPar3 (i j l : Nat) (g : SA) : SS := fun E env => g env (fun as env1 => allV as fun ts => match ts with
  | [t, u, z] => force (((env1.set i t).set j u).set l z) E.nx
  | _ => False) E.ex
theorem d_par3 {i j l : Nat} {x y z : Str} {px py pz pt' : Pos} {kt k2 : Nat} {pt2 : Pos} {γ : SA} (hBi : B i = true) (hBj : B j = true) (hBl : B l = true) (hc : X.calm = true) (hN : X.N.Nodup) (hi : X.N[i]? = some x) (hj : X.N[j]? = some y) (hl : X.N[l]? = some z) (hij : i ≠ j) (hil : i ≠ l) (hjl : j ≠ l)
    {T : TS} (h0 : PS X st T) (hT : ∀ D σ H, tPar3 i j l (tA X.K W γ) D σ H → T D σ H) : PDS X W B st (sPar3 i j l γ) :=
  ps_weak h0 fun D σ H ⟨env, R, E, w, h, ok⟩ => hT D σ H ⟨env, R, _, _, w, h, fun as env1 vs H1 k1 w1 => by
    obtain ⟨ts, k1, e2⟩ := allV_get (σ := σ) (X := X) k1
    rw [e2] at w1
    have hl := w1.lenL
    split at k1
    · rename_i t u z
      match vs, hl with
      | [v, w', y'], _ =>
        refine ⟨v, w', y', rfl, ok.nx _ _ _ (force_mp k1) (((Kp.set hBi).trans (Kp.set hBj)).trans (Kp.set hBl)) ?_⟩
        rw [RepL_cons, RepL_cons, RepL_cons, RepL_nil, star_emp] at w1
        have w2 : Wd H1 (Rep X.K t v • EnvA X.K env1 σ • (Rep X.K u w' • Rep X.K z y' • R)) := w1.eq (by ac_rfl)
        have w3 := (wd_set (i := i) w2).eq (B := Rep X.K u w' • EnvA X.K (env1.set i t) (σ.set i (some v)) • (Rep X.K z y' • R)) (by ac_rfl)
        have w4 := (wd_set (i := j) w3).eq (B := Rep X.K z y' • EnvA X.K ((env1.set i t).set j u) ((σ.set i (some v)).set j (some w')) • R) (by ac_rfl)
        exact wd_set w4
    · exact k1.elim, ok.ee⟩
/-- x += e by values (flat) -/
def sAug (f : F2) (i : Nat) (α : SE) : SS := fun E env => asD (slot env i) fun x => α env (fun t env1 => f (.d x) t fun z => force (env1.set i z) E.nx) E.ex
theorem d_aug {op : Operator} {ti : TIp} {f : F2} {i : Nat} {x : Str} {pos' : Pos} (hB : B i = true) (hr : RB X.K f ti) (hN : X.N.Nodup) (hi : X.N[i]? = some x) (hx : Loc X.env.scope x) (he : PD X W a α) (ho : PIp X op ti)
    (hf : X.fn x = true ∨ X.env.scope.names.lookup x = some .local := by first | exact .inl rfl | exact .inr rfl | assumption) : PDS X W B (.AugAssign (.Name x pos') op a pos) (sAug f i α) :=
  ps_weak (ps_aug hN hi hx he ho hf) fun D σ H ⟨env, R, E, w, h, ok⟩ => by
    obtain ⟨d, e, h⟩ := asD_get h
    have hg : slot env i ≠ .gone := by rw [e]; intro z; cases z
    obtain ⟨v, hv, e2⟩ := wd_slot w (slot_get hg) hg
    rw [e] at e2
    have w2 : Wd H (EnvA X.K env σ • (Rep X.K (.d d) v • R)) := by
      rw [e2] at w ⊢
      exact (wd_dup (w.eq (star_assoc _ _ _))).eq (by ac_rfl)
    refine ⟨v, hv, env, _, _, _, w2, h, fun t env1 y H1 k1 w1 => ?_, ok.ee.more⟩
    exact hr (.d d) t v y H1 (EnvA X.K env1 σ • R) _ _ (w1.eq (by ac_rfl)) k1 fun z v' H2 k2 w3 => ok.nx _ _ _ (force_mp k2) (Kp.set hB) (wd_set w3)

/-! ### what is walked -/
structure Wk (K : PySem.W.Frag) (J : It) (ts : List T) (I : Nat → Asn) : Prop where
  go : ∀ i H A, i < ts.length → Wd H (I i • A) → J.go i H
  stop : ∀ H A, Wd H (I ts.length • A) → J.stop ts.length H
  yld : ∀ i H A x H' t, ts[i]? = some t → Wd H (I i • A) → J.yld i H x H' → Wd H' (Rep K t x • I (i + 1) • A)
abbrev SI := Nv → (List T → Nv → Prop) → XQ → Prop
def tI (K : PySem.W.Frag) (W : WX) (ι : SI) : TI := fun σ H R => ∃ env Rf k e, Wd H (EnvA K env σ • Rf) ∧ ι env k e ∧ (∀ ts env' J I H', k ts env' → Wk K J ts I → Wd H' (I 0 • EnvA K env' σ • Rf) → R J H') ∧ ErE K W σ Rf e
def PDI (X : Cx) (W : WX) (tg iter : Expr) (ι : SI) : Prop := PI X tg iter (tI X.K W ι)
theorem pi_weak {X : Cx} {tg e : Expr} {t t' : TI} (h : PI X tg e t) (f : ∀ σ H Q, t' σ H Q → t σ H Q) : PI X tg e t' := ⟨fun pins s σ H Q I q => h.run pins s σ H Q I (f _ _ _ q)⟩
def forL (g : STG) (δ : SS) (E : EndT) : List T → Nv → Prop
  | [], env => E.nx env
  | t :: ts, env => g t env fun env' => δ ⟨forL g δ E ts, E.rt, E.nx, forL g δ E ts, E.ex⟩ env'
/-- the same, shut: nothing goes into a loop by itself -/
@[irreducible] def forK (g : STG) (δ : SS) (E : EndT) (ts : List T) (env : Nv) : Prop := forL g δ E ts env
theorem forK_eq {g : STG} {δ : SS} {E : EndT} {ts : List T} {env : Nv} : forK g δ E ts env = forL g δ E ts env := by unfold forK; rfl
def sFor (ι : SI) (g : STG) (δ : SS) : SS := fun E env => ι env (fun ts env' => forK g δ E ts env') E.ex
variable {ι : SI}
theorem d_for (hp : PassesOwn (model X.prog X.w) X.A X.env X.xe) (hc : X.calm = true) (hi : PDI X W tg iter ι) (hg : PDG X B tg g) (hb : PDSs X W B body δ)
    (hs : ∀ x, foldedSetIterable iter X.env x = pure x := by intro _; rfl) : PDS X W B (.For tg iter body [] pos) (sFor ι g δ) :=
  ps_weak (ps_for hp hc hi hg hb hs) fun D σ H ⟨env, R, E, w, h, ok⟩ => ⟨env, R, _, _, w, h, fun ts env1 J I H1 k0 wk w1 => by
    have k1 := forK_eq.mp k0
    refine ⟨fun i m σ' H' => m = ts.length - i ∧ i ≤ ts.length ∧ ∃ env', Wd H' (I i • EnvA X.K env' σ' • R) ∧ Kp B σ σ' ∧ forL g δ E (ts.drop i) env', ⟨ts.length, by simp, Nat.zero_le _, env1, w1, Kp.refl, by simpa using k1⟩, ?_⟩
    rintro i m σ' H' ⟨rfl, hi, env', w', kp, q⟩
    by_cases hlt : i < ts.length
    · refine .inr ⟨wk.go i H' _ hlt w', fun σ2 H2 => ∃ env2, Wd H2 (I (i + 1) • EnvA X.K env2 σ2 • R) ∧ Kp B σ σ2 ∧ forL g δ E (ts.drop (i + 1)) env2, fun σ2 H2 ⟨env2, w2, kp2, q2⟩ => ⟨ts.length - (i + 1), by omega, rfl, hlt, env2, w2, kp2, q2⟩, fun x H2 y => ?_⟩
      have ed : ts.drop i = ts[i] :: ts.drop (i + 1) := List.drop_eq_getElem_cons hlt
      rw [ed] at q
      have w2 := wk.yld i H' _ x H2 ts[i] (List.getElem?_eq_getElem hlt) w' y
      refine ⟨ts[i], env', I (i + 1) • R, _, w2.eq (by ac_rfl), q, fun env2 σ2 H3 q2 kp2 w3 => ?_⟩
      refine ⟨env2, I (i + 1) • R, _, w3, q2, ⟨fun env3 σ3 H4 q3 kp3 w4 => ⟨env3, w4.eq (by ac_rfl), (kp.trans kp2).trans kp3, q3⟩, ?_, ?_, fun env3 σ3 H4 q3 kp3 w4 => ⟨env3, w4.eq (by ac_rfl), (kp.trans kp2).trans kp3, q3⟩, ?_⟩⟩
      · exact ((ok.mid (kp.trans kp2)).more (A := I (i + 1))).rt
      · intro env3 σ3 H4 q3 kp3 w4
        exact ((ok.mid (kp.trans kp2)).more (A := I (i + 1))).nx env3 σ3 H4 q3 kp3 w4
      · exact ((ok.mid (kp.trans kp2)).more (A := I (i + 1))).er
    · have e : i = ts.length := by omega
      subst e
      refine .inl ⟨wk.stop H' _ w', ?_⟩
      rw [List.drop_length] at q
      exact ok.nx env' σ' H' q kp w'.drop, ok.ee⟩
def sWhile (p : SB) (δ : SS) : SS := fun E env => ∃ (Wt : Nat → Nv → Prop) (m : Nat), Wt m env ∧ ∀ m env, Wt m env → p env (fun b env1 => wh b (δ ⟨fun e2 => ∃ m', m' < m ∧ Wt m' e2, E.rt, E.nx, fun e2 => ∃ m', m' < m ∧ Wt m' e2, E.ex⟩ env1) (E.nx env1)) E.ex
theorem d_while (hp : PassesOwn (model X.prog X.w) X.A X.env X.xe) (hc : PDB X W c p) (hb : PDSs X W B body δ) : PDS X W B (.While c body [] pos) (sWhile p δ) :=
  ps_weak (ps_while hp hc hb) fun D σ H ⟨env, R, E, w, ⟨Wt, m, h0, h⟩, ok⟩ => by
    refine ⟨fun m σ' H' => ∃ env', Wd H' (EnvA X.K env' σ' • R) ∧ Kp B σ σ' ∧ Wt m env', ⟨m, env, w, Kp.refl, h0⟩, ?_⟩
    rintro m σ' H' ⟨env', w', kp, q⟩
    have ok' := ok.mid kp
    refine ⟨env', R, _, _, w', h m env' q, fun b env1 H1 k1 w1 => ?_, ok'.ee⟩
    cases b with
    | true =>
      rw [if_pos rfl]
      refine ⟨fun σ2 H2 => ∃ m', m' < m ∧ ∃ env2, Wd H2 (EnvA X.K env2 σ2 • R) ∧ Kp B σ σ2 ∧ Wt m' env2, fun σ2 H2 ⟨m', l, z⟩ => ⟨m', l, z⟩, env1, R, _, w1, k1, ⟨fun env3 σ3 H4 ⟨m', l, q3⟩ kp3 w4 => ⟨m', l, env3, w4, kp.trans kp3, q3⟩, ok'.rt, ok'.nx, fun env3 σ3 H4 ⟨m', l, q3⟩ kp3 w4 => ⟨m', l, env3, w4, kp.trans kp3, q3⟩, ok'.er⟩⟩
    | false =>
      rw [if_neg Bool.false_ne_true]
      exact ok'.nx _ _ _ k1 Kp.refl w1
end
end WC

/-! WLh: what is walked, comprehensions, defs and their calls. -/
namespace WC
open PySem PySem.Spec PyProof.Rows L2
/-- the items of a list -/
def itL (t : T) (k : List T → Prop) : Prop := match t with
  | .lst ts => k ts
  | .d (.lst ds) => k (ds.map .d)
  | _ => False
theorem wd_unseq {K : PySem.W.Frag} {H : Hp} {t : T} {v : V} {A : Asn} {k : List T → Prop} (h : itL t k) (w : Wd H (Rep K t v • A)) :
    ∃ (p : Addr) (ts : List T) (vs : List V) (Sp : Asn), v = .ref p ∧ k ts ∧ ts.length = vs.length ∧ (∀ H' A', Wd H' (Sp • A') → SqL K H' p vs) ∧ Wd H (Sp • RepL K ts vs • A) := by
  unfold itL at h
  split at h
  · obtain ⟨p, vs, e, w2⟩ := wd_unlst w
    exact ⟨p, _, vs, pt p (.lst vs), e, h, (w2.drop).lenL, fun H' A' w' => SqL.of w'.get, w2⟩
  · rename_i ds
    obtain ⟨G, h1, a, b, c, d, x, y, s, q, z⟩ := w
    rw [kn_den] at q
    obtain ⟨rfl, q⟩ := q
    simp only [Den] at q
    obtain ⟨p, vs, e, hT, hL⟩ := q
    refine ⟨p, ds.map .d, vs, kn fun G => SqL K G p vs, e, h, by rw [List.length_map]; exact DenL_len hL, fun H' A' w' => w'.knL, G, h1, a, b, c, d, Hp0, h1, spl_empty _, ⟨rfl, fun G1 s1 => Same.seq s1 hT⟩, Hp0, y, s, RepL_d.mpr ⟨rfl, hL⟩, z⟩
  · exact h.elim
theorem RepL_drop {K : PySem.W.Frag} {ts : List T} {vs : List V} {i : Nat} {t : T} {v : V} (h1 : ts[i]? = some t) (h2 : vs[i]? = some v) : RepL K (ts.drop i) (vs.drop i) = Rep K t v • RepL K (ts.drop (i + 1)) (vs.drop (i + 1)) := by
  obtain ⟨l1, e1⟩ := List.getElem?_eq_some_iff.mp h1
  obtain ⟨l2, e2⟩ := List.getElem?_eq_some_iff.mp h2
  rw [List.drop_eq_getElem_cons l1, List.drop_eq_getElem_cons l2, RepL_cons, e1, e2]
section
variable {K : PySem.W.Frag}
theorem wk_list {p : Addr} {ts : List T} {vs : List V} {Sp : Asn} (hl : ts.length = vs.length) (hs : ∀ H' A', Wd H' (Sp • A') → SqL K H' p vs) : Wk K (Itl K p) ts fun i => Sp • RepL K (ts.drop i) (vs.drop i) where
  go := fun i H A hi w => walk_list.goes i H (by omega) (hs H _ (w.eq (star_assoc _ _ _)))
  stop := fun H A w => by
    have h := walk_list.stops H (hs H _ (w.eq (star_assoc _ _ _)))
    rw [hl]
    exact h
  yld := fun i H A x H' t ht w y => by
    have hi := (List.getElem?_eq_some_iff.mp ht).1
    obtain ⟨e, hx⟩ := walk_list.yields i H x H' (by omega) (hs H _ (w.eq (star_assoc _ _ _))) y
    subst e
    rw [RepL_drop ht hx] at w
    exact w.eq (by ac_rfl)
theorem wk_tup {p : Addr} {ts : List T} {vs : List V} {Sp : Asn} (hl : ts.length = vs.length) (hs : ∀ H' A', Wd H' (Sp • A') → SqT K H' p vs) : Wk K (Itt K p) ts fun i => Sp • RepL K (ts.drop i) (vs.drop i) where
  go := fun i H A hi w => walk_tup.goes i H (by omega) (hs H _ (w.eq (star_assoc _ _ _)))
  stop := fun H A w => by
    have h := walk_tup.stops H (hs H _ (w.eq (star_assoc _ _ _)))
    rw [hl]
    exact h
  yld := fun i H A x H' t ht w y => by
    have hi := (List.getElem?_eq_some_iff.mp ht).1
    obtain ⟨e, hx⟩ := walk_tup.yields i H x H' (by omega) (hs H _ (w.eq (star_assoc _ _ _))) y
    subst e
    rw [RepL_drop ht hx] at w
    exact w.eq (by ac_rfl)
/-- lo, lo + 1, .. -/
def rngT (lo : Int) (n : Nat) : List T := (List.range n).map fun i => .int (lo + (i : Nat))
theorem rngT_len (lo : Int) (n : Nat) : (rngT lo n).length = n := by simp [rngT]
theorem rngT_get {lo : Int} {n i : Nat} {t : T} (h : (rngT lo n)[i]? = some t) : i < n ∧ t = .int (lo + (i : Nat)) := by
  unfold rngT at h
  rw [List.getElem?_map] at h
  by_cases hi : i < n
  · rw [List.getElem?_range hi] at h
    simp only [Option.map_some, Option.some.injEq] at h
    exact ⟨hi, h.symm⟩
  · rw [List.getElem?_eq_none (by simp; omega)] at h
    cases h
theorem wk_range {lo : Int} {n : Nat} : Wk K (Itr lo n) (rngT lo n) fun _ => emp where
  go := fun i H A hi w => by rw [rngT_len] at hi; exact hi
  stop := fun H A w => by rw [rngT_len]; exact Nat.le_refl n
  yld := fun i H A x H' t ht w y => by
    obtain ⟨hi, rfl⟩ := rngT_get ht
    obtain ⟨e, hx⟩ := walk_range.yields i H x H' hi trivial y
    subst e
    subst hx
    exact wd_ofl w
/-- (0, t), (1, u), .. -/
def enumT (ts : List T) : List T := ts.zipIdx.map fun x => mkTup [.int (x.2 : Nat), x.1]
theorem enumT_len (ts : List T) : (enumT ts).length = ts.length := by simp [enumT]
theorem enumT_get {ts : List T} {i : Nat} {t : T} (h : (enumT ts)[i]? = some t) : ∃ u, ts[i]? = some u ∧ t = mkTup [.int (i : Nat), u] := by
  unfold enumT at h
  rw [List.getElem?_map, List.getElem?_zipIdx] at h
  cases e : ts[i]? with
  | none => rw [e] at h; cases h
  | some u =>
    rw [e] at h
    simp only [Option.map_some, Option.some.injEq, Nat.zero_add] at h
    exact ⟨u, rfl, h.symm⟩
theorem wk_enum {p : Addr} {ts : List T} {vs : List V} {Sp : Asn} (hl : ts.length = vs.length) (hs : ∀ H' A', Wd H' (Sp • A') → SqL K H' p vs) : Wk K (Ite K p) (enumT ts) fun i => Sp • RepL K (ts.drop i) (vs.drop i) where
  go := fun i H A hi w => walk_enum.goes i H (by rw [enumT_len] at hi; omega) (hs H _ (w.eq (star_assoc _ _ _)))
  stop := fun H A w => by
    rw [enumT_len] at w ⊢
    have h := walk_enum.stops H (hs H _ (w.eq (star_assoc _ _ _)))
    rw [hl]
    exact h
  yld := fun i H A x H' t ht w y => by
    obtain ⟨u, hu, rfl⟩ := enumT_get ht
    have hi := (List.getElem?_eq_some_iff.mp hu).1
    obtain ⟨q, x1, x2, rfl, nq, rfl, e1, e2⟩ := walk_enum.yields i H x H' (by omega) (hs H _ (w.eq (star_assoc _ _ _))) y
    cases e1
    rw [RepL_drop hu e2] at w
    have w2 := wd_newTup (K := K) (vs := [.int (i : Nat), x2]) w nq
    refine wd_mkTup (K := K) (vs := [.int (i : Nat), x2]) ?_
    rw [RepL_cons, RepL_cons, RepL_nil, star_emp]
    have w3 : Wd (upd H q (.tup [.int (i : Nat), x2])) (Rep K u x2 • (kn (fun G => TupA K G q [.int (i : Nat), x2]) • (Sp • RepL K (ts.drop (i + 1)) (vs.drop (i + 1))) • A)) := w2.eq (by ac_rfl)
    exact (wd_ofl (x := .int (i : Nat)) w3).eq (by ac_rfl)
/-- the signs of a text -/
def strT (z : Str) : List T := z.cps.toList.map fun c => .str ⟨#[c]⟩
theorem wk_str {z : Str} : Wk K (Its z) (strT z) fun _ => emp where
  go := fun i H A hi w => by
    have h : i < z.cps.size := by simpa [strT] using hi
    exact h
  stop := fun H A w => by
    show z.cps.size ≤ (strT z).length
    simp [strT]
  yld := fun i H A x H' t ht w y => by
    unfold strT at ht
    rw [List.getElem?_map] at ht
    cases e : z.cps.toList[i]? with
    | none => rw [e] at ht; cases ht
    | some c =>
      rw [e] at ht
      simp only [Option.map_some, Option.some.injEq] at ht
      obtain ⟨e2, c', hc, rfl⟩ := walk_str.yields i H x H' (by
        have := (List.getElem?_eq_some_iff.mp e).1
        simpa using this) trivial y
      subst e2
      have : c' = c := by
        have h2 : z.cps.toList[i]? = some c' := by simpa using hc
        rw [e] at h2
        exact (Option.some.inj h2).symm
      subst this
      subst ht
      exact wd_ofl w
/-- pairs of two lists -/
def zipT (ts us : List T) : List T := (ts.zip us).map fun x => mkTup [x.1, x.2]
theorem wk_zip {p q : Addr} {ts us : List T} {vs ws : List V} {Sp Sq : Asn} (hl : ts.length = vs.length) (hl2 : us.length = ws.length) (hs : ∀ H' A', Wd H' (Sp • A') → SqL K H' p vs) (hs2 : ∀ H' A', Wd H' (Sq • A') → SqL K H' q ws) :
    Wk K (Itz K p q) (zipT ts us) fun i => Sp • Sq • RepL K (ts.drop i) (vs.drop i) • RepL K (us.drop i) (ws.drop i) where
  go := fun i H A hi w => by
    have hi : i < min ts.length us.length := by simpa [zipT] using hi
    exact (walk_zip (n := min vs.length ws.length) rfl).goes i H (by omega) ⟨hs H _ (w.eq (star_assoc _ _ _)), hs2 H _ (w.eq (B := Sq • (Sp • RepL K (ts.drop i) (vs.drop i) • RepL K (us.drop i) (ws.drop i)) • A) (by ac_rfl))⟩
  stop := fun H A w => by
    have e : (zipT ts us).length = min vs.length ws.length := by simp [zipT, hl, hl2]
    rw [e] at w ⊢
    exact (walk_zip (n := min vs.length ws.length) rfl).stops H ⟨hs H _ (w.eq (star_assoc _ _ _)), hs2 H _ (w.eq (B := Sq • (Sp • RepL K (ts.drop _) (vs.drop _) • RepL K (us.drop _) (ws.drop _)) • A) (by ac_rfl))⟩
  yld := fun i H A x H' t ht w y => by
    unfold zipT at ht
    rw [List.getElem?_map] at ht
    cases e : (ts.zip us)[i]? with
    | none => rw [e] at ht; cases ht
    | some tu =>
      rw [e] at ht
      simp only [Option.map_some, Option.some.injEq] at ht
      rw [List.getElem?_zip_eq_some] at e
      obtain ⟨e1, e2⟩ := e
      have l1 := (List.getElem?_eq_some_iff.mp e1).1
      have l2 := (List.getElem?_eq_some_iff.mp e2).1
      obtain ⟨r, x1, x2, rfl, nr, rfl, f1, f2⟩ := (walk_zip (n := min vs.length ws.length) rfl).yields i H x H' (by omega) ⟨hs H _ (w.eq (star_assoc _ _ _)), hs2 H _ (w.eq (B := Sq • (Sp • RepL K (ts.drop i) (vs.drop i) • RepL K (us.drop i) (ws.drop i)) • A) (by ac_rfl))⟩ y
      rw [RepL_drop e1 f1, RepL_drop e2 f2] at w
      have w2 := wd_newTup (K := K) (vs := [x1, x2]) w nr
      subst ht
      refine wd_mkTup (K := K) (vs := [x1, x2]) ?_
      rw [RepL_cons, RepL_cons, RepL_nil, star_emp]
      exact w2.eq (by ac_rfl)
end
section
variable {X : Cx} {W : WX} {B : Nat → Bool} {a b c iter tg e0 : Expr} {es : List Expr} {α β : SE} {γ : SA} {p : SB} {g : STG} {ι : SI} {pos p1 : Pos}
def sIL (α : SE) : SI := fun env k e => α env (fun t env1 => itL t fun ts => k ts env1) e
theorem d_iL (h : PD X W a α) : PDI X W tg a (sIL α) := pi_weak (pi_list h) fun σ H R ⟨env, Rf, k, e, w, q, ok, er⟩ => ⟨env, Rf, _, e, w, q, fun t env1 v H1 k1 w1 => by
  obtain ⟨p, ts, vs, Sp, rfl, k2, hl, hs, w2⟩ := wd_unseq k1 w1
  exact ⟨p, rfl, ⟨vs, hs H1 _ w2⟩, ok ts env1 _ _ H1 k2 (wk_list hl hs) (w2.eq (by simp only [List.drop_zero]; ac_rfl))⟩, er⟩
theorem wd_untupS {K : PySem.W.Frag} {H : Hp} {t : T} {v : V} {A : Asn} {k : List T → Prop} (h : asU t k) (w : Wd H (Rep K t v • A)) :
    ∃ (p : Addr) (ts : List T) (vs : List V) (Sp : Asn), v = .ref p ∧ k ts ∧ ts.length = vs.length ∧ (∀ H' A', Wd H' (Sp • A') → SqT K H' p vs) ∧ Wd H (Sp • RepL K ts vs • A) := by
  unfold asU at h
  split at h
  · rename_i ds
    obtain ⟨G, h1, a, b, c, d, x, y, s, q, z⟩ := w
    rw [kn_den] at q
    obtain ⟨rfl, q⟩ := q
    simp only [Den] at q
    obtain ⟨p, vs, e, hT, hL⟩ := q
    exact ⟨p, ds.map .d, vs, kn fun G => TupA K G p vs, e, h, by rw [List.length_map]; exact DenL_len hL, fun H' A' w' => w'.knL.sq, G, h1, a, b, c, d, Hp0, h1, spl_empty _, ⟨rfl, fun G1 s1 => hT.same s1⟩, Hp0, y, s, RepL_d.mpr ⟨rfl, hL⟩, z⟩
  · rename_i ts
    simp only [Rep] at w
    obtain ⟨p, w⟩ := w.exL
    obtain ⟨vs, w⟩ := w.exL
    have w2 : Wd H (pu (v = .ref p) • (kn (fun G => TupA K G p vs) • (RepL K ts vs • A))) := w.eq (by ac_rfl)
    have w3 := w2.puL.2
    exact ⟨p, ts, vs, kn fun G => TupA K G p vs, w2.puL.1, h, w3.knD.lenL, fun H' A' w' => w'.knL.sq, w3⟩
  · exact h.elim
def sIU (α : SE) : SI := fun env k e => α env (fun t env1 => asU t fun ts => k ts env1) e
theorem d_iU (h : PD X W a α) : PDI X W tg a (sIU α) := pi_weak (pi_tup h) fun σ H R ⟨env, Rf, k, e, w, q, ok, er⟩ => ⟨env, Rf, _, e, w, q, fun t env1 v H1 k1 w1 => by
  obtain ⟨p, ts, vs, Sp, rfl, k2, hl, hs, w2⟩ := wd_untupS k1 w1
  exact ⟨p, rfl, ⟨vs, hs H1 _ w2⟩, ok ts env1 _ _ H1 k2 (wk_tup hl hs) (w2.eq (by simp only [List.drop_zero]; ac_rfl))⟩, er⟩
def inR (i : Int) : Prop := -(2 ^ 62) ≤ i ∧ i < 2 ^ 62
def sIR1 (γ : SA) : SI := fun env k e => γ env (fun as env1 => allV as fun ts => match ts with
  | [t] => asI t fun n => inR n ∧ k (rngT 0 n.toNat) env1
  | _ => False) e
theorem d_iR1 (hg : Gl X "range") (hm : X.mg "range" = none) (ha : PDA X W [a] γ) (hs : starEach [a] X.env = [(false, eval a X.env)] := by rfl) : PDI X W tg (.Call (.Name "range" p1) [a] [] pos) (sIR1 γ) :=
  pi_weak (pi_range1 hg hm ha hs) fun σ H R ⟨env, Rf, k, e, w, q, ok, er⟩ => ⟨env, Rf, _, e, w, q, fun as env1 vs H1 k1 w1 => by
    obtain ⟨ts, k1, e2⟩ := allV_get (σ := σ) (X := X) k1
    rw [e2] at w1
    have hl := w1.lenL
    split at k1
    · rename_i t
      match vs, hl with
      | [v], _ =>
        obtain ⟨n, rfl, k2⟩ := asI_get k1
        rw [RepL_cons, RepL_nil, star_emp] at w1
        obtain rfl := wd_fl w1
        refine ⟨n, rfl, k2.1.1, k2.1.2, ok _ env1 _ _ H1 k2.2 wk_range ?_⟩
        rw [emp_star]
        exact w1.drop
    · exact k1.elim, er⟩
def sIR2 (γ : SA) : SI := fun env k e => γ env (fun as env1 => allV as fun ts => match ts with
  | [t, u] => asI t fun i => asI u fun j => inR i ∧ inR j ∧ k (rngT i (j - i).toNat) env1
  | _ => False) e
theorem d_iR2 (hg : Gl X "range") (hm : X.mg "range" = none) (ha : PDA X W [a, b] γ) (hs : starEach [a, b] X.env = [(false, eval a X.env), (false, eval b X.env)] := by rfl) (hs2 : starEach [b] X.env = [(false, eval b X.env)] := by rfl) :
    PDI X W tg (.Call (.Name "range" p1) [a, b] [] pos) (sIR2 γ) :=
  pi_weak (pi_range2 hg hm ha hs hs2) fun σ H R ⟨env, Rf, k, e, w, q, ok, er⟩ => ⟨env, Rf, _, e, w, q, fun as env1 vs H1 k1 w1 => by
    obtain ⟨ts, k1, e2⟩ := allV_get (σ := σ) (X := X) k1
    rw [e2] at w1
    have hl := w1.lenL
    split at k1
    · rename_i t u
      match vs, hl with
      | [v, v2], _ =>
        obtain ⟨i, rfl, k2⟩ := asI_get k1
        obtain ⟨j, rfl, k3⟩ := asI_get k2
        rw [RepL_cons, RepL_cons, RepL_nil, star_emp] at w1
        have w2 := w1.eq (star_assoc _ _ _)
        obtain rfl := wd_fl w2
        obtain rfl := wd_fl w2.drop
        refine ⟨i, j, rfl, ⟨k3.1.1, k3.1.2, k3.2.1.1, k3.2.1.2⟩, ok _ env1 _ _ H1 k3.2.2 wk_range ?_⟩
        rw [emp_star]
        exact w2.drop.drop
    · exact k1.elim, er⟩
def sIE (γ : SA) : SI := fun env k e => γ env (fun as env1 => allV as fun ts => match ts with
  | [t] => itL t fun us => k (enumT us) env1
  | _ => False) e
theorem d_iE {elts : List Expr} {kk : Nat} {tpos : Pos} (hg : Gl X "enumerate") (hm : X.mg "enumerate" = none) (ha : PDA X W [a] γ) (hs : starEach [a] X.env = [(false, eval a X.env)] := by rfl) : PDI X W (.Tuple elts kk tpos) (.Call (.Name "enumerate" p1) [a] [] pos) (sIE γ) :=
  pi_weak (pi_enum hg hm ha hs) fun σ H R ⟨env, Rf, k, e, w, q, ok, er⟩ => ⟨env, Rf, _, e, w, q, fun as env1 vs H1 k1 w1 => by
    obtain ⟨ts, k1, e2⟩ := allV_get (σ := σ) (X := X) k1
    rw [e2] at w1
    have hl := w1.lenL
    split at k1
    · rename_i t
      match vs, hl with
      | [v], _ =>
        rw [RepL_cons, RepL_nil, star_emp] at w1
        obtain ⟨p, us, ws, Sp, rfl, k2, hl2, hs2, w2⟩ := wd_unseq k1 w1
        exact ⟨p, ws, rfl, hs2 H1 _ w2, ok _ env1 _ _ H1 k2 (wk_enum hl2 hs2) (w2.eq (by simp only [List.drop_zero]; ac_rfl))⟩
    · exact k1.elim, er⟩
def asS (t : T) (k : Str → Prop) : Prop := match t with
  | .d (.fl (.str z)) => k z
  | _ => False
theorem asS_get {t : T} {k : Str → Prop} (h : asS t k) : ∃ z, t = .str z ∧ k z := by
  unfold asS at h
  split at h
  · exact ⟨_, rfl, h⟩
  · exact h.elim
def sIS (α : SE) : SI := fun env k e => α env (fun t env1 => asS t fun z => k (strT z) env1) e
theorem d_iS (h : PD X W a α) : PDI X W tg a (sIS α) := pi_weak (pi_str h) fun σ H R ⟨env, Rf, k, e, w, q, ok, er⟩ => ⟨env, Rf, _, e, w, q, fun t env1 v H1 k1 w1 => by
  obtain ⟨z, rfl, k2⟩ := asS_get k1
  obtain rfl := wd_fl w1
  refine ⟨z, rfl, ok _ env1 _ _ H1 k2 wk_str ?_⟩
  rw [emp_star]
  exact w1.drop, er⟩
def sIZ (γ : SA) : SI := fun env k e => γ env (fun as env1 => allV as fun ts => match ts with
  | [t, u] => itL t fun xs => itL u fun ys => k (zipT xs ys) env1
  | _ => False) e
theorem d_iZ {elts : List Expr} {kk : Nat} {tpos : Pos} (hg : Gl X "zip") (hm : X.mg "zip" = none) (ha : PDA X W [a, b] γ) (hs : starEach [a, b] X.env = (false, eval a X.env) :: starEach [b] X.env := by rfl) (hpl : (backTo pos (starEach [b] X.env)).any (·.1) = false := by rfl) :
    PDI X W (.Tuple elts kk tpos) (.Call (.Name "zip" p1) [a, b] [] pos) (sIZ γ) :=
  pi_weak (pi_zip hg hm ha hs hpl) fun σ H R ⟨env, Rf, k, e, w, q, ok, er⟩ => ⟨env, Rf, _, e, w, q, fun as env1 vs H1 k1 w1 => by
    obtain ⟨ts, k1, e2⟩ := allV_get (σ := σ) (X := X) k1
    rw [e2] at w1
    have hl := w1.lenL
    split at k1
    · rename_i t u
      match vs, hl with
      | [v, v2], _ =>
        rw [RepL_cons, RepL_cons, RepL_nil, star_emp] at w1
        have w1 := w1.eq (star_assoc _ _ _)
        obtain ⟨p, us, ws, Sp, rfl, k2, hl2, hs2, w2⟩ := wd_unseq k1 w1
        have w3 : Wd H1 (Rep X.K u v2 • (Sp • RepL X.K us ws • EnvA X.K env1 σ • Rf)) := w2.eq (by ac_rfl)
        obtain ⟨p', us', ws', Sp', rfl, k4, hl4, hs4, w4⟩ := wd_unseq k2 w3
        exact ⟨p, p', ws, ws', rfl, hs2 H1 _ (w4.eq (B := Sp • (Sp' • RepL X.K us' ws' • RepL X.K us ws • EnvA X.K env1 σ • Rf)) (by ac_rfl)), hs4 H1 _ w4, ok _ env1 _ _ H1 k4 (wk_zip hl2 hl4 hs2 hs4) (w4.eq (by simp only [List.drop_zero]; ac_rfl))⟩
    · exact k1.elim, er⟩
end
end WC

/-! WLi: comprehensions, defs and their calls. -/
namespace WC
open PySem PySem.Spec PyProof.Rows L2
def wipeT (env : Nv) : List Nat → Nv
  | [] => env
  | v :: vs => (wipeT env vs).set v .gone
def restT (env : Nv) : List Nat → Nv → Nv
  | [], e2 => e2
  | v :: vs, e2 => restT env vs (e2.set v (slot (wipeT env vs) v))
def savedA (K : PySem.W.Frag) (σ : L2.St) (env : Nv) : List Nat → Asn
  | [] => emp
  | v :: vs => (match (wipe σ vs)[v]? with
    | some x => SlotA K (slot (wipeT env vs) v) x
    | none => emp) • savedA K σ env vs
section
variable {K : PySem.W.Frag}
theorem EnvA_any : ∀ {env : Nv} {σ : L2.St} {i : Nat} {x : Option V}, EnvA K (env.set i .gone) (σ.set i x) = EnvA K (env.set i .gone) σ
  | [], [], _, _ => rfl
  | [], _ :: _, 0, _ => rfl
  | [], _ :: _, _ + 1, _ => rfl
  | _ :: _, [], 0, _ => rfl
  | _ :: _, [], _ + 1, _ => rfl
  | u :: env, y :: σ, 0, x => by
    show SlotA K .gone x • EnvA K env σ = SlotA K .gone y • EnvA K env σ
    rw [SlotA_gone, SlotA_gone]
  | u :: env, y :: σ, i + 1, x => by
    show SlotA K u y • EnvA K (env.set i .gone) (σ.set i x) = SlotA K u y • EnvA K (env.set i .gone) σ
    rw [EnvA_any]
theorem slot_lt {env : Nv} {i : Nat} (h : i < env.length) : env[i]? = some (slot env i) := by
  have e := List.getElem?_eq_getElem h
  rw [e, slot_eq e]
theorem slot_ge : ∀ {env : Nv} {i : Nat}, env.length ≤ i → slot env i = .gone
  | [], _, _ => rfl
  | _ :: _, 0, h => by simp at h
  | _ :: r, n + 1, h => slot_ge (env := r) (by simpa using h)
theorem shuf1 {S E A R : Asn} : (S • E) • A • R = E • (S • A) • R := by ac_rfl
theorem shuf2 {S E A R : Asn} : E • (S • A) • R = E • (S • A • R) := by ac_rfl
theorem wd_save {H : Hp} {σ : L2.St} {env : Nv} {R : Asn} : ∀ {vs : List Nat}, Wd H (EnvA K env σ • R) → Wd H (EnvA K (wipeT env vs) (wipe σ vs) • savedA K σ env vs • R)
  | [], w => by
    show Wd H (EnvA K env σ • emp • R)
    rw [emp_star]
    exact w
  | v :: vs, w => by
    have w1 := wd_save (vs := vs) w
    have hl := w1.len
    show Wd H (EnvA K ((wipeT env vs).set v .gone) ((wipe σ vs).set v none) • ((match (wipe σ vs)[v]? with
    | some x => SlotA K (slot (wipeT env vs) v) x
    | none => emp) • savedA K σ env vs) • R)
    rw [EnvA_any]
    by_cases hv : v < (wipe σ vs).length
    · obtain ⟨x, hx⟩ : ∃ x, (wipe σ vs)[v]? = some x := ⟨_, List.getElem?_eq_getElem hv⟩
      rw [hx]
      dsimp only
      have e : EnvA K (wipeT env vs) (wipe σ vs) = SlotA K (slot (wipeT env vs) v) x • EnvA K ((wipeT env vs).set v .gone) (wipe σ vs) := EnvA_take (slot_lt (by omega)) hx
      rw [e] at w1
      exact w1.eq shuf1
    · rw [List.getElem?_eq_none (by omega), List.set_eq_of_length_le (by omega)]
      show Wd H (EnvA K (wipeT env vs) (wipe σ vs) • (emp • savedA K σ env vs) • R)
      rw [emp_star]
      exact w1
theorem wd_rest {H : Hp} {σ : L2.St} {env : Nv} {R : Asn} : ∀ {vs : List Nat} {e2 : Nv}, Wd H (EnvA K e2 (wipe σ vs) • savedA K σ env vs • R) → Wd H (EnvA K (restT env vs e2) σ • R)
  | [], e2, w => by
    have w : Wd H (EnvA K e2 σ • emp • R) := w
    rw [emp_star] at w
    exact w
  | v :: vs, e2, w => by
    have w : Wd H (EnvA K e2 ((wipe σ vs).set v none) • ((match (wipe σ vs)[v]? with
    | some x => SlotA K (slot (wipeT env vs) v) x
    | none => emp) • savedA K σ env vs) • R) := w
    refine wd_rest (vs := vs) ?_
    have hl := w.len
    rw [List.length_set] at hl
    by_cases hv : v < (wipe σ vs).length
    · obtain ⟨x, hx⟩ : ∃ x, (wipe σ vs)[v]? = some x := ⟨_, List.getElem?_eq_getElem hv⟩
      rw [hx] at w
      dsimp only at w
      have w1 : Wd H (EnvA K e2 ((wipe σ vs).set v none) • (SlotA K (slot (wipeT env vs) v) x • savedA K σ env vs • R)) := w.eq shuf2
      have e : EnvA K e2 ((wipe σ vs).set v none) = SlotA K (slot e2 v) none • EnvA K (e2.set v .gone) ((wipe σ vs).set v none) := EnvA_take (slot_lt (by omega)) (by rw [List.getElem?_set_self hv])
      rw [e, EnvA_any] at w1
      have w2 := (w1.eq (star_assoc _ _ _)).drop
      have e3 : EnvA K (e2.set v (slot (wipeT env vs) v)) (wipe σ vs) = SlotA K (slot (wipeT env vs) v) x • EnvA K ((e2.set v (slot (wipeT env vs) v)).set v .gone) (wipe σ vs) := EnvA_take (by rw [List.getElem?_set_self (by omega)]) hx
      rw [e3, List.set_set]
      exact w2.eq (by ac_rfl)
    · rw [List.getElem?_eq_none (by omega), List.set_eq_of_length_le (by omega)] at w
      rw [List.set_eq_of_length_le (by omega)]
      have w1 : Wd H (EnvA K e2 (wipe σ vs) • (emp • savedA K σ env vs) • R) := w
      rw [emp_star] at w1
      exact w1
theorem wipe_get {σ : L2.St} : ∀ {vs : List Nat} {j : Nat}, j ∉ vs → (wipe σ vs)[j]? = σ[j]?
  | [], _, _ => rfl
  | v :: vs, j, h => by
    simp only [List.mem_cons, not_or] at h
    unfold wipe
    rw [List.getElem?_set_ne (fun e => h.1 e.symm), wipe_get h.2]
theorem wipe_at {σ : L2.St} : ∀ {vs : List Nat} {j : Nat}, j ∈ vs → j < σ.length → (wipe σ vs)[j]? = some none
  | v :: vs, j, h, hl => by
    unfold wipe
    by_cases e : v = j
    · subst e
      rw [List.getElem?_set_self (by rw [wipe_length]; exact hl)]
    · rw [List.getElem?_set_ne e]
      rcases List.mem_cons.mp h with z | z
      · exact absurd z.symm e
      · exact wipe_at z hl
theorem wipe_kp {σ σ2 : L2.St} {vs : List Nat} {B : Nat → Bool} (hB : ∀ j, B j = true → j ∈ vs) (h : Kp B (wipe σ vs) σ2) : wipe σ2 vs = wipe σ vs := by
  have hl : σ2.length = σ.length := by rw [h.1, wipe_length]
  apply List.ext_getElem?
  intro j
  by_cases hj : j ∈ vs
  · by_cases hlt : j < σ.length
    · rw [wipe_at hj (by omega), wipe_at hj hlt]
    · rw [List.getElem?_eq_none (by rw [wipe_length]; omega), List.getElem?_eq_none (by rw [wipe_length]; omega)]
  · rw [wipe_get hj]
    refine h.2 j ?_
    cases e : B j with
    | false => rfl
    | true => exact absurd (hB j e) hj
end
abbrev W0 : WX := fun _ _ _ _ => False
def lcL (vs : List Nat) (g : STG) (p : SB) (α : SE) (k : List T → Nv → Prop) : List T → List T → Nv → Prop
  | [], acc, env => k acc env
  | t :: ts, acc, env => g t env fun env1 => p env1 (fun b env2 => wh b (α env2 (fun y env3 => lcL vs g p α k ts (acc ++ [y]) (wipeT env3 vs)) (fun _ _ => False)) (lcL vs g p α k ts acc (wipeT env2 vs))) (fun _ _ => False)
@[irreducible] def lcK (vs : List Nat) (g : STG) (p : SB) (α : SE) (k : List T → Nv → Prop) (ts acc : List T) (env : Nv) : Prop := lcL vs g p α k ts acc env
theorem lcK_eq {vs : List Nat} {g : STG} {p : SB} {α : SE} {k : List T → Nv → Prop} {ts acc : List T} {env : Nv} : lcK vs g p α k ts acc env = lcL vs g p α k ts acc env := by unfold lcK; rfl
def sLc (vs : List Nat) (ι : SI) (g : STG) (p : SB) (α : SE) : SE := fun env k e => ι env (fun ts env1 => ts.length ≤ 1000000 ∧ lcK vs g p α (fun out env2 => force (restT env1 vs env2) (k (.lst out))) ts [] (wipeT env1 vs)) e
def sYes : SB := fun env k _ => k true env
def PDBs (X : Cx) (W : WX) (ifs : List Expr) (β : SB) : Prop := PTs X ifs (tT X.K W β)
section
variable {X : Cx} {W : WX} {B : Nat → Bool} {a b c elt iter tg e0 : Expr} {es ifs : List Expr} {α β : SE} {γ : SA} {p : SB} {g : STG} {ι : SI} {pos p1 : Pos}
theorem d_tnil : PDBs X W [] sYes := ⟨fun pins s σ H Q I ⟨env, R, k, e, w, q, ok, er⟩ => pts_nil.run pins s σ H Q I (ok true env H q w)⟩
theorem d_tone (h : PDB X W c p) : PDBs X W [c] p := pts_one h
theorem lc_of {vs : List Nat} {wB : Nat → Bool} (hB : ∀ j, wB j = true → j ∈ vs) {σ : L2.St} {H : Hp} {Q : VK} (h : tE X.K W (sLc vs ι g p α) σ H Q) : tLc (tI X.K W ι) (tG X.K wB g) (tT X.K W0 p) (tE X.K W0 α) vs σ H Q := by
  obtain ⟨env, R, k, e, w, q, ok, er⟩ := h
  refine ⟨env, R, _, e, w, q, fun ts env1 J I H1 ⟨hlen, k0⟩ wk w1 => fun D hD => ?_, er⟩
  have k1 := lcK_eq.mp k0
  have w2 : Wd H1 (EnvA X.K env1 σ • (I 0 • R)) := w1.eq (by ac_rfl)
  have w3 := (wd_save (vs := vs) w2).alloc (o := .lst []) hD fun xs z => by cases z
  refine ⟨fun i m H' => m = ts.length - i ∧ i ≤ ts.length ∧ ∃ env' acc ats, acc.length ≤ i ∧ Wd H' (I i • pt D (.lst acc) • RepL X.K ats acc • EnvA X.K env' (wipe σ vs) • savedA X.K σ env1 vs • R) ∧ lcL vs g p α (fun out env2 => force (restT env1 vs env2) (k (.lst out))) (ts.drop i) ats env',
    ⟨ts.length, by simp, Nat.zero_le _, wipeT env1 vs, [], [], Nat.le_refl _, ?_, by simpa using k1⟩, ?_⟩
  · rw [RepL_nil, emp_star]
    exact w3.eq (by ac_rfl)
  rintro i m H' ⟨rfl, hi, env', acc, ats, ha, w', q'⟩
  by_cases hlt : i < ts.length
  · refine .inr ⟨wk.go i H' _ hlt w', fun H2 => ∃ env2 acc2 ats2, acc2.length ≤ i + 1 ∧ Wd H2 (I (i + 1) • pt D (.lst acc2) • RepL X.K ats2 acc2 • EnvA X.K env2 (wipe σ vs) • savedA X.K σ env1 vs • R) ∧ lcL vs g p α (fun out env2 => force (restT env1 vs env2) (k (.lst out))) (ts.drop (i + 1)) ats2 env2,
      fun H2 ⟨env2, acc2, ats2, l2, w4, q2⟩ => ⟨ts.length - (i + 1), by omega, rfl, hlt, env2, acc2, ats2, l2, w4, q2⟩, fun x H2 y => ?_⟩
    have ed : ts.drop i = ts[i] :: ts.drop (i + 1) := List.drop_eq_getElem_cons hlt
    rw [ed] at q'
    have w4 := wk.yld i H' _ x H2 ts[i] (List.getElem?_eq_getElem hlt) w' y
    refine ⟨ts[i], env', I (i + 1) • pt D (.lst acc) • RepL X.K ats acc • savedA X.K σ env1 vs • R, _, w4.eq (by ac_rfl), q', fun env2 σ2 H3 q2 kp w5 => ⟨wipe_kp hB kp, ?_⟩⟩
    have ew := wipe_kp hB kp
    refine ⟨env2, _, _, _, w5, q2, fun b env3 H4 q3 w6 => ?_, ErE.no⟩
    cases b with
    | true =>
      rw [if_pos rfl]
      refine ⟨env3, _, _, _, w6, q3, fun ty env4 y' H5 q4 w7 => ?_, ErE.no⟩
      have w8 : Wd H5 (pt D (.lst acc) • (Rep X.K ty y' • EnvA X.K env4 σ2 • I (i + 1) • RepL X.K ats acc • savedA X.K σ env1 vs • R)) := w7.eq (by ac_rfl)
      have hal : ats.length = acc.length := (w8.eq (B := RepL X.K ats acc • (pt D (.lst acc) • Rep X.K ty y' • EnvA X.K env4 σ2 • I (i + 1) • savedA X.K σ env1 vs • R)) (by ac_rfl)).lenL
      refine ⟨acc, w8.get, ?_, wipeT env4 vs, acc ++ [y'], ats ++ [ty], by simp; omega, ?_, q4⟩
      · have := hlen
        exact Nat.lt_of_lt_of_le (show acc.length < 1000001 by omega) (by decide)
      · have w9 := w8.write (o' := .lst (acc ++ [y'])) fun xs z => by cases z
        have w10 : Wd (upd H5 D (.lst (acc ++ [y']))) (EnvA X.K env4 σ2 • (pt D (.lst (acc ++ [y'])) • Rep X.K ty y' • I (i + 1) • RepL X.K ats acc • savedA X.K σ env1 vs • R)) := w9.eq (by ac_rfl)
        have w11 := wd_save (vs := vs) w10
        rw [ew] at w11
        have w12 : Wd (upd H5 D (.lst (acc ++ [y']))) (savedA X.K σ2 env4 vs • (EnvA X.K (wipeT env4 vs) (wipe σ vs) • pt D (.lst (acc ++ [y'])) • Rep X.K ty y' • I (i + 1) • RepL X.K ats acc • savedA X.K σ env1 vs • R)) := w11.eq (by ac_rfl)
        rw [RepL_app hal, RepL_cons, RepL_nil, star_emp]
        exact w12.drop.eq (by ac_rfl)
    | false =>
      rw [if_neg Bool.false_ne_true]
      refine ⟨wipeT env3 vs, acc, ats, by omega, ?_, q3⟩
      have w11 := wd_save (vs := vs) w6
      rw [ew] at w11
      have w12 : Wd H4 (savedA X.K σ2 env3 vs • (EnvA X.K (wipeT env3 vs) (wipe σ vs) • I (i + 1) • pt D (.lst acc) • RepL X.K ats acc • savedA X.K σ env1 vs • R)) := w11.eq (by ac_rfl)
      exact w12.drop.eq (by ac_rfl)
  · have e : i = ts.length := by omega
    subst e
    refine .inl ⟨wk.stop H' _ w', ?_⟩
    rw [List.drop_length] at q'
    refine ok _ _ _ _ (force_mp q') ?_
    have w4 : Wd H' (I ts.length • (EnvA X.K env' (wipe σ vs) • savedA X.K σ env1 vs • (pt D (.lst acc) • RepL X.K ats acc • R))) := w'.eq (by ac_rfl)
    have w5 := wd_rest w4.drop
    exact wd_lst (w5.eq (by ac_rfl))
theorem d_lc {scope : Scope} {own : List (Str × Nat)} (wB : Nat → Bool) (hB : ∀ j, wB j = true → j ∈ own.map (·.2)) (hc : X.calm = true) (hN : X.N.Nodup) (hi : PDI X W tg iter ι) (hk : BlkOk X.N X.env.scope scope own)
    (hg : ∀ (s : Shared) (H : Hp) (C : Addr) (cl : List (Str × Addr)) (fp : List Addr), PDG (X.blk s H scope (compEnvC scope cl C X.env) fp) wB tg g) (ht : ∀ (s : Shared) (H : Hp) (C : Addr) (cl : List (Str × Addr)) (fp : List Addr), PDBs (X.blk s H scope (compEnvC scope cl C X.env) fp) W0 ifs p)
    (he : ∀ (s : Shared) (H : Hp) (C : Addr) (cl : List (Str × Addr)) (fp : List Addr), PD (X.blk s H scope (compEnvC scope cl C X.env) fp) W0 elt α) (hs : ∀ x, foldedSetIterable iter X.env x = pure x := by intro _; rfl) :
    PD X W (.ListComp elt [⟨tg, iter, ifs, 0⟩] scope pos) (sLc (own.map (·.2)) ι g p α) :=
  pe_weak (pe_lc (wi := tI X.K W ι) (g := tG X.K wB g) (tt := tT X.K W0 p) (te := tE X.K W0 α) hc hN hi hk hg ht he hs) fun _ _ _ h => lc_of hB h
theorem d_setLc {i : Nat} {y : Str} {py spos : Pos} {scope : Scope} {own : List (Str × Nat)} (wB : Nat → Bool) (hBi : B i = true) (hB : ∀ j, wB j = true → j ∈ own.map (·.2)) (hc : X.calm = true) (hN : X.N.Nodup) (hy : X.N[i]? = some y) (hyl : X.env.scope.names.lookup y = some .local)
    (hsw : swapsWith (.ListComp elt [⟨tg, iter, ifs, 0⟩] scope pos) (some (.Name y py)) spos.line X.env = pure true) (hi : PDI X W tg iter ι) (hk : BlkOk X.N X.env.scope scope own)
    (hg : ∀ (s : Shared) (H : Hp) (C : Addr) (cl : List (Str × Addr)) (fp : List Addr), PDG (X.blk s H scope (compEnvC scope cl C X.env) fp) wB tg g) (ht : ∀ (s : Shared) (H : Hp) (C : Addr) (cl : List (Str × Addr)) (fp : List Addr), PDBs (X.blk s H scope (compEnvC scope cl C X.env) fp) W0 ifs p)
    (he : ∀ (s : Shared) (H : Hp) (C : Addr) (cl : List (Str × Addr)) (fp : List Addr), PD (X.blk s H scope (compEnvC scope cl C X.env) fp) W0 elt α) (hs : ∀ x, foldedSetIterable iter X.env x = pure x := by intro _; rfl) :
    PDS X W B (.Assign [.Name y py] (.ListComp elt [⟨tg, iter, ifs, 0⟩] scope pos) spos) (sAsg (sLc (own.map (·.2)) ι g p α) (gN i)) :=
  ps_weak (ps_setLc (wi := tI X.K W ι) (g := tG X.K wB g) (tt := tT X.K W0 p) (te := tE X.K W0 α) hc hN hy hyl hsw hi hk hg ht he hs) fun D σ H ⟨env, R, E, w, h, ok⟩ => by
    have h1 : tE X.K W (sLc (own.map (·.2)) ι g p α) σ H (fun x H1 => gName i x σ H1 D.nx) := ⟨env, R, _, _, w, h, fun t env1 v H1 k1 w1 => ok.nx _ _ _ (force_mp k1) (Kp.set hBi) (wd_set w1), ok.ee⟩
    exact lc_of hB h1
/-! ### defs -/
abbrev FT := List T → (T → List T → Prop) → (Exn → List T → Prop) → Prop
/-- the promise of a def of n parameters by its worth over trees -/
def spT (K : PySem.W.Frag) (n : Nat) (φ : FT) : Sp := fun vs H Q E => vs.length = n ∧ ∃ ts R k e, Wd H (RepL K ts vs • R) ∧ φ ts k e ∧ (∀ t ts' v H', k t ts' → Wd H' (Rep K t v • RepL K ts' vs • R) → Q v H') ∧
  (∀ x ts' cls d H', e x ts' → Wd H' (ExnA K x cls d • RepL K ts' vs • R) → E cls d H')
/-- the arguments' objects behind a call -/
def backP (B : Nat → Bool) : Nat → List T → Nv → List T
  | _, [], _ => []
  | j, .d x :: ts, env => .d x :: backP B (j + 1) ts env.tail
  | j, _ :: ts, env => (if B j = true then .gone else slot env 0) :: backP B (j + 1) ts env.tail
def dupsT : List T → List T
  | [] => []
  | .d x :: ts => .d x :: dupsT ts
  | _ :: ts => .gone :: dupsT ts
theorem dups_star {K : PySem.W.Frag} : ∀ {ts : List T} {vs : List V}, RepL K ts vs = RepL K ts vs • RepL K (dupsT ts) vs
  | [], [] => by simp only [dupsT, RepL, emp_star]
  | [], _ :: _ => by
    simp only [dupsT, RepL]
    exact Asn.ext' fun G h => ⟨fun p => p.elim, fun ⟨_, _, _, p, _⟩ => p.elim⟩
  | t :: ts, [] => by
    have e : RepL K (t :: ts) ([] : List V) = fal := by simp only [RepL]
    rw [e]
    exact Asn.ext' fun G h => ⟨fun p => p.elim, fun ⟨_, _, _, p, _⟩ => p.elim⟩
  | t :: ts, v :: vs => by
    have ih := dups_star (K := K) (ts := ts) (vs := vs)
    have key : ∀ u : T, dupsT (t :: ts) = u :: dupsT ts → Rep K t v = Rep K t v • Rep K u v → RepL K (t :: ts) (v :: vs) = RepL K (t :: ts) (v :: vs) • RepL K (dupsT (t :: ts)) (v :: vs) := fun u e1 e2 => by
      rw [e1, RepL_cons, RepL_cons]
      have e3 : Rep K t v • RepL K ts vs = (Rep K t v • Rep K u v) • (RepL K ts vs • RepL K (dupsT ts) vs) := by rw [← e2, ← ih]
      have e4 : (Rep K t v • RepL K ts vs) • Rep K u v • RepL K (dupsT ts) vs = (Rep K t v • Rep K u v) • (RepL K ts vs • RepL K (dupsT ts) vs) := by ac_rfl
      rw [e4]
      exact e3
    have ge : Rep K .gone v = emp := by simp only [Rep]
    cases t with
    | d x => exact key (.d x) rfl Rep_dup
    | gone => exact key .gone rfl (by rw [ge, emp_star])
    | tup _ => exact key .gone rfl (by rw [ge, star_emp])
    | lst _ => exact key .gone rfl (by rw [ge, star_emp])
    | dK _ _ => exact key .gone rfl (by rw [ge, star_emp])
    | dT _ _ => exact key .gone rfl (by rw [ge, star_emp])
    | ins _ _ _ => exact key .gone rfl (by rw [ge, star_emp])
theorem wd_backP {K : PySem.W.Frag} {B : Nat → Bool} {H : Hp} {R : Asn} : ∀ {j : Nat} {ts : List T} {vs : List V} {env : Nv} {σ : L2.St}, ts.length = vs.length → (∀ i, i < ts.length → B (j + i) = false → σ[i]? = vs[i]?.map some) → Wd H (EnvA K env σ • RepL K (dupsT ts) vs • R) → Wd H (RepL K (backP B j ts env) vs • R)
  | j, [], [], env, σ, _, _, w => by
    simp only [backP, RepL, emp_star]
    exact w.drop.drop
  | _, [], _ :: _, _, _, h, _, _ => by simp at h
  | _, _ :: _, [], _, _, h, _, _ => by simp at h
  | j, t :: ts, v :: vs, env, σ, hl, hσ, w => by
    have hl2 : ts.length = vs.length := by simpa using hl
    -- the rest, with the first slot's part beside it
    have step : ∀ (u z : T), dupsT (t :: ts) = u :: dupsT ts → backP B j (t :: ts) env = z :: backP B (j + 1) ts env.tail → (∀ x : Option V, σ[0]? = some x → ∀ A, Wd H (SlotA K (slot env 0) x • Rep K u v • A) → Wd H (Rep K z v • A)) → (σ = [] → ∀ A, Wd H (Rep K u v • A) → Wd H (Rep K z v • A)) → Wd H (RepL K (backP B j (t :: ts) env) (v :: vs) • R) := fun u z e1 e2 f f0 => by
      rw [e2, RepL_cons]
      rw [e1, RepL_cons] at w
      have hle := w.len
      match env, σ, hle with
      | [], [], _ =>
        have w1 : Wd H (Rep K u v • (EnvA K [] [] • RepL K (dupsT ts) vs • R)) := w.eq (by ac_rfl)
        have w2 := f0 rfl _ w1
        have w3 : Wd H (EnvA K [] [] • RepL K (dupsT ts) vs • (Rep K z v • R)) := w2.eq (by ac_rfl)
        refine (wd_backP (j := j + 1) hl2 (fun i hi hb => ?_) w3).eq (by ac_rfl)
        have h2 := hσ (i + 1) (by simpa using hi) (by rw [show j + (i + 1) = j + 1 + i by omega]; exact hb)
        rw [List.getElem?_cons_succ] at h2
        rw [← h2]
        rfl
      | e0 :: env, x :: σ, _ =>
        have w1 : Wd H (SlotA K e0 x • Rep K u v • (EnvA K env σ • RepL K (dupsT ts) vs • R)) := by
          have w0 : Wd H ((SlotA K e0 x • EnvA K env σ) • (Rep K u v • RepL K (dupsT ts) vs) • R) := w
          exact w0.eq (by ac_rfl)
        have w2 := f x rfl _ w1
        have w3 : Wd H (EnvA K env σ • RepL K (dupsT ts) vs • (Rep K z v • R)) := w2.eq (by ac_rfl)
        refine (wd_backP (j := j + 1) hl2 (fun i hi hb => ?_) w3).eq (by ac_rfl)
        have h2 := hσ (i + 1) (by simpa using hi) (by rw [show j + (i + 1) = j + 1 + i by omega]; exact hb)
        rw [List.getElem?_cons_succ, List.getElem?_cons_succ] at h2
        exact h2
    have other : dupsT (t :: ts) = .gone :: dupsT ts → backP B j (t :: ts) env = (if B j = true then .gone else slot env 0) :: backP B (j + 1) ts env.tail → Wd H (RepL K (backP B j (t :: ts) env) (v :: vs) • R) := fun e1 e2 => by
      have ge : ∀ y, Rep K .gone y = emp := fun y => by simp only [Rep]
      refine step .gone _ e1 e2 (fun x hx A w1 => ?_) (fun h0 A w1 => ?_)
      · by_cases hb : B j = true
        · rw [if_pos hb, ge, emp_star]
          exact w1.drop.drop
        · rw [if_neg hb]
          have h2 := hσ 0 (by simp) (by simpa using hb)
          rw [hx] at h2
          simp only [List.getElem?_cons_zero, Option.map_some, Option.some.injEq] at h2
          subst h2
          rw [ge, emp_star] at w1
          exact w1
      · by_cases hb : B j = true
        · rw [if_pos hb, ge, emp_star]
          exact w1.drop
        · have h2 := hσ 0 (by simp) (by simpa using hb)
          rw [h0] at h2
          simp at h2
    cases t with
    | d y => exact step (.d y) (.d y) rfl rfl (fun x hx A w1 => w1.drop) (fun h0 A w1 => w1)
    | gone => exact other rfl rfl
    | tup _ => exact other rfl rfl
    | lst _ => exact other rfl rfl
    | dK _ _ => exact other rfl rfl
    | dT _ _ => exact other rfl rfl
    | ins _ _ _ => exact other rfl rfl
theorem wd_start {K : PySem.W.Frag} {H : Hp} {R : Asn} : ∀ {ts : List T} {vs : List V} {m : Nat}, ts.length = vs.length → EnvA K (ts ++ List.replicate m .gone) (vs.map some ++ List.replicate m none) = RepL K ts vs
  | [], [], 0, _ => by simp only [RepL]; rfl
  | [], [], m + 1, _ => by
    show SlotA K .gone none • EnvA K ([] ++ List.replicate m .gone) (([] : List V).map some ++ List.replicate m none) = _
    rw [SlotA_gone, emp_star, wd_start (R := R) (H := H) (ts := []) (vs := []) rfl]
  | [], _ :: _, _, h => by simp at h
  | _ :: _, [], _, h => by simp at h
  | t :: ts, v :: vs, m, h => by
    rw [RepL_cons]
    show Rep K t v • EnvA K (ts ++ List.replicate m .gone) (vs.map some ++ List.replicate m none) = _
    rw [wd_start (R := R) (H := H) (by simpa using h)]
/-- what is wanted at a def's ends, from what its caller wants -/
def endP (B : Nat → Bool) (ts : List T) (k : T → List T → Prop) (e : Exn → List T → Prop) : EndT :=
  ⟨fun env => k .non (backP B 0 ts env), fun t env => k t (backP B 0 ts env), fun _ => False, fun _ => False, fun x env => e x (backP B 0 ts env)⟩
/-- A DEF that lets no exception out: its body's worth δ, its promise φ -/
theorem def_ok {P : Program} {w : World} {K : PySem.W.Frag} {mg : Str → Option Value} {base : Heap} {x qual : Str} {st : Stmt} {f : Addr} {fd : FuncData} {N ps : List Str} {k : Nat} {φ : FT} (B : Nat → Bool) (F : Fun K x qual st f fd) (S : FnScope N ps (defScope st)) (δ : SS)
    (hbody : ∀ (cdv : Value) (A : Around) (outer : List Env) (s : Shared) (H : Hp) (E : XK), Room k (A.deeper (envOfC qual (defScope st) s.heap.objs.size f cdv)) →
      PDSs (cxOf CX0 P w K mg base N qual (defScope st) f cdv A outer s H E).nox W0 B (defBody st) δ)
    (hφ : ∀ ts k e, ts.length = ps.length → φ ts k e → δ (endP B ts k fun _ _ => False) (ts ++ List.replicate (N.length - ps.length) .gone)) : FnOk P w K mg base CX0 (k + 1) f fd ps (spT K ps.length φ) := by
  refine F.ok S (fun vs H Q E h => h.1) (fun cdv A outer s H vs Q E hr h => ⟨_, hbody cdv A outer s H E hr, ?_⟩)
  obtain ⟨hl, ts, R, k', e, w, q, ok, er⟩ := h
  have hl2 := w.lenL
  have q2 := hφ ts k' e (by omega) q
  rw [dups_star] at w
  have w2 : Wd H (EnvA K (ts ++ List.replicate (N.length - ps.length) .gone) (L2.start N vs) • (RepL K (dupsT ts) vs • R)) := by
    unfold L2.start
    rw [hl, wd_start (R := R) (H := H) hl2]
    exact w.eq (star_assoc _ _ _)
  have keep : ∀ {σ' : L2.St}, Kp B (L2.start N vs) σ' → ∀ i, i < ts.length → B (0 + i) = false → σ'[i]? = vs[i]?.map some := fun {σ'} kp i hi hb => by
    rw [kp.2 i (by simpa using hb)]
    unfold L2.start
    rw [List.getElem?_append_left (by simp; omega), List.getElem?_map]
  refine ⟨_, _, _, w2, q2, ⟨fun env σ' H' k1 kp w3 => ?_, fun t env σ' v H' k1 kp w3 => ?_, fun _ _ _ q _ _ => q.elim, fun _ _ _ q _ _ => q.elim, fun _ _ _ _ _ _ q _ _ => q.elim⟩⟩
  · have w4 := wd_backP (B := B) (j := 0) hl2 (keep kp) w3
    exact ok _ _ _ _ k1 (wd_ofl w4)
  · have w4 : Wd H' (EnvA K env σ' • RepL K (dupsT ts) vs • (Rep K t v • R)) := w3.eq (by ac_rfl)
    have w5 := wd_backP (B := B) (j := 0) hl2 (keep kp) w4
    exact ok _ _ _ _ k1 (w5.eq (by ac_rfl))
end
end WC

/-! WLj: calls of defs; operators and built-ins by their worth. -/
namespace WC
open PySem PySem.Spec PyProof.Rows L2
def takeA : List Arg → Nv → (List T → Nv → Prop) → Prop
  | [], env, k => k [] env
  | .v t :: as, env, k => takeA as env fun ts env' => k (t :: ts) env'
  | .l i :: as, env, k => match slot env i with
    | .gone => False
    | t => takeA as (env.set i .gone) fun ts env' => k (t :: ts) env'
def giveA : List Arg → List T → Nv → Nv
  | .v _ :: as, _ :: ts, env => giveA as ts env
  | .l i :: as, t :: ts, env => (giveA as ts env).set i t
  | _, _, env => env
theorem slot_set_self : ∀ {env : Nv} {i : Nat} {t : T}, i < env.length → slot (env.set i t) i = t
  | [], _, _, h => by simp at h
  | _ :: _, 0, _, _ => rfl
  | _ :: r, n + 1, _, h => slot_set_self (env := r) (by simpa using h)
theorem slot_set_ne : ∀ {env : Nv} {i j : Nat} {t : T}, i ≠ j → slot (env.set i t) j = slot env j
  | [], _, _, _, _ => rfl
  | _ :: _, 0, 0, _, h => absurd rfl h
  | _ :: _, 0, _ + 1, _, _ => rfl
  | _ :: _, _ + 1, 0, _, _ => rfl
  | _ :: r, n + 1, m + 1, _, h => slot_set_ne (env := r) (fun e => h (by rw [e]))
theorem slot_set_gone {env : Nv} {i j : Nat} (h : slot env j = .gone) : slot (env.set i .gone) j = .gone := by
  by_cases e : i = j
  · subst e
    by_cases hl : i < env.length
    · exact slot_set_self hl
    · rw [List.set_eq_of_length_le (by omega)]
      exact h
  · rw [slot_set_ne e]
    exact h
theorem set_gone_id : ∀ {env : Nv} {i : Nat}, slot env i = .gone → env.set i .gone = env
  | [], _, _ => rfl
  | t :: r, 0, h => by
    have h : t = .gone := h
    rw [h]
    rfl
  | t :: r, n + 1, h => by
    rw [List.set_cons_succ, set_gone_id (env := r) h]
section
variable {K : PySem.W.Frag}
theorem take_of {σ : L2.St} : ∀ {as : List Arg} {env : Nv} {k : List T → Nv → Prop}, takeA as env k → ∃ ts env', k ts env' ∧ env'.length = env.length ∧ ts.length = as.length ∧ (∀ j, slot env j = .gone → slot env' j = .gone) ∧
    (∀ ts' j, slot env j = .gone → slot (giveA as ts' env') j = .gone) ∧ (∀ ts', (giveA as ts' env').length = env'.length) ∧ ∀ vs H R, Wd H (ArgA K σ as vs • EnvA K env σ • R) →
      Wd H (RepL K ts vs • EnvA K env' σ • R) ∧ ∀ ts' H' R', ts'.length = as.length → Wd H' (RepL K ts' vs • EnvA K env' σ • R') → Wd H' (EnvA K (giveA as ts' env') σ • R')
  | [], env, k, h => ⟨[], env, h, rfl, rfl, fun j q => q, fun ts' j q => q, fun _ => rfl, fun vs H R w => by
    cases vs with
    | nil =>
      rw [RepL_nil]
      refine ⟨w, fun ts' H' R' hl w' => ?_⟩
      have e : ts' = [] := List.length_eq_zero_iff.mp hl
      subst e
      rw [RepL_nil, emp_star] at w'
      exact w'
    | cons v vs =>
      obtain ⟨G, h, _, _, _, _, _, _, _, p, _⟩ := w
      exact p.elim⟩
  | .v t :: as, env, k, h => by
    obtain ⟨ts, env', hk, l1, l2, g1, g2, g3, f⟩ := take_of (σ := σ) (as := as) h
    refine ⟨t :: ts, env', hk, l1, by simp [l2], g1, fun ts' j q => ?_, fun ts' => ?_, fun vs H R w => ?_⟩
    · cases ts' with
      | nil => exact g1 j q
      | cons t' ts' => exact g2 ts' j q
    · cases ts' with
      | nil => rfl
      | cons t' ts' => exact g3 ts'
    · cases vs with
      | nil =>
        obtain ⟨G, h, _, _, _, _, _, _, _, p, _⟩ := w
        exact p.elim
      | cons v vs =>
        have w1 : Wd H (ArgA K σ as vs • EnvA K env σ • (Rep K t v • R)) := by
          have w0 : Wd H ((Rep K t v • ArgA K σ as vs) • EnvA K env σ • R) := w
          exact w0.eq (by ac_rfl)
        obtain ⟨w2, back⟩ := f vs H _ w1
        refine ⟨by rw [RepL_cons]; exact w2.eq (by ac_rfl), fun ts' H' R' hl w' => ?_⟩
        cases ts' with
        | nil => simp at hl
        | cons t' ts' =>
          rw [RepL_cons] at w'
          have w3 : Wd H' (RepL K ts' vs • EnvA K env' σ • (Rep K t' v • R')) := w'.eq (by ac_rfl)
          have w4 := back ts' H' _ (by simpa using hl) w3
          have w5 : Wd H' (Rep K t' v • (EnvA K (giveA as ts' env') σ • R')) := w4.eq (by ac_rfl)
          exact w5.drop
  | .l i :: as, env, k, h => by
    have hg : slot env i ≠ .gone := fun e => by
      unfold takeA at h
      rw [e] at h
      exact h
    have h2 : takeA as (env.set i .gone) fun ts env' => k (slot env i :: ts) env' := by
      unfold takeA at h
      split at h
      · rename_i e
        exact absurd e hg
      · exact h
    obtain ⟨ts, env', hk, l1, l2, g1, g2, g3, f⟩ := take_of (σ := σ) (as := as) h2
    have hi : i < env.length := (List.getElem?_eq_some_iff.mp (slot_get hg)).1
    have gi : slot (env.set i .gone) i = .gone := slot_set_self hi
    refine ⟨slot env i :: ts, env', hk, by rw [l1, List.length_set], by simp [l2], fun j q => g1 j (slot_set_gone q), fun ts' j q => ?_, fun ts' => ?_, fun vs H R w => ?_⟩
    · cases ts' with
      | nil => exact g1 j (slot_set_gone q)
      | cons t' ts' =>
        have ne : i ≠ j := fun e => by rw [e] at hg; exact hg q
        show slot ((giveA as ts' env').set i t') j = .gone
        rw [slot_set_ne ne]
        exact g2 ts' j (slot_set_gone q)
    · cases ts' with
      | nil => rfl
      | cons t' ts' =>
        show ((giveA as ts' env').set i t').length = _
        rw [List.length_set]
        exact g3 ts'
    · cases vs with
      | nil =>
        obtain ⟨G, h, _, _, _, _, _, _, _, p, _⟩ := w
        exact p.elim
      | cons v vs =>
        have w0 : Wd H ((pu (σ[i]? = some (some v)) • ArgA K σ as vs) • EnvA K env σ • R) := w
        have wp : Wd H (pu (σ[i]? = some (some v)) • (ArgA K σ as vs • EnvA K env σ • R)) := w0.eq (by ac_rfl)
        obtain ⟨hv, wq⟩ := wp.puL
        have wr : Wd H (EnvA K env σ • (ArgA K σ as vs • R)) := wq.eq (by ac_rfl)
        obtain ⟨v', hv', e2⟩ := wd_slot wr (slot_get hg) hg
        rw [hv] at hv'
        cases hv'
        rw [e2] at wr
        have w1 : Wd H (ArgA K σ as vs • EnvA K (env.set i .gone) σ • (Rep K (slot env i) v • R)) := wr.eq (by ac_rfl)
        obtain ⟨w2, back⟩ := f vs H _ w1
        refine ⟨by rw [RepL_cons]; exact w2.eq (by ac_rfl), fun ts' H' R' hl w' => ?_⟩
        cases ts' with
        | nil => simp at hl
        | cons t' ts' =>
          rw [RepL_cons] at w'
          have w3 : Wd H' (RepL K ts' vs • EnvA K env' σ • (Rep K t' v • R')) := w'.eq (by ac_rfl)
          have w4 := back ts' H' _ (by simpa using hl) w3
          show Wd H' (EnvA K ((giveA as ts' env').set i t') σ • R')
          rw [EnvA_back hv (by rw [g3, l1, List.length_set]; exact hi), set_gone_id (g2 ts' i gi)]
          exact w4.eq (by ac_rfl)
end
/-- f(..), of a def of this worth; dvs: the defaults behind the written arguments -/
def sCall (n : Nat) (φ : FT) (dvs : List V) (γ : SA) : SE := fun env k e => γ env (fun as env1 => takeA as env1 fun ts env2 => ifT (Nat.beq (ts.length + dvs.length) n) (φ (ts ++ dvs.map .fl) (fun t ts' => force (giveA as ts' env2) (k t)) (fun x ts' => force (giveA as ts' env2) (e x)))) e
theorem RepL_fl {K : PySem.W.Frag} : ∀ {vs : List V}, RepL K (vs.map T.fl) vs = emp
  | [] => RepL_nil
  | v :: vs => by
    rw [List.map_cons, RepL_cons, rep_fl, emp_star, RepL_fl]
section
variable {X : Cx} {W : WX} {B : Nat → Bool} {a b c : Expr} {es : List Expr} {γ : SA} {pos p1 : Pos} {x : Str} {k n : Nat} {f : Addr} {fd : FuncData} {ps : List Str} {φ : FT} {dvs : List V} {ds : List Value}
/-- giving back less or more than was taken changes the slots lent alone -/
theorem giveA_cut : ∀ {as : List Arg} {ts us : List T} {env : Nv}, ts.length = as.length → giveA as (ts ++ us) env = giveA as ts env
  | [], ts, us, env, h => by
    have e : ts = [] := List.length_eq_zero_iff.mp h
    subst e
    cases us <;> rfl
  | .v _ :: as, [], _, _, h => by simp at h
  | .l _ :: as, [], _, _, h => by simp at h
  | .v _ :: as, t :: ts, us, env, h => by
    show giveA as (ts ++ us) env = giveA as ts env
    exact giveA_cut (by simpa using h)
  | .l i :: as, t :: ts, us, env, h => by
    show (giveA as (ts ++ us) env).set i t = (giveA as ts env).set i t
    rw [giveA_cut (by simpa using h)]
theorem call_of {E : XK} {σ : L2.St} {H : Hp} {Q : VK} (h : tE X.K W (sCall n φ dvs γ) σ H Q)
    (hE : ∀ e R, ErE X.K W σ R e → ∀ x env cls d H', e x env → Wd H' (ExnA X.K x cls d • EnvA X.K env σ • R) → E cls d H') :
    tCall (spT X.K n φ) dvs E (tA X.K W γ) σ H Q := by
  obtain ⟨env, R, k', e, w, q, ok, er⟩ := h
  refine ⟨env, R, _, e, w, q, fun as env1 vs H1 k1 w1 => ?_, er⟩
  obtain ⟨ts, env2, k0, l1, l2, g1, g2, g3, f⟩ := take_of (K := X.K) (σ := σ) k1
  obtain ⟨hl, k2⟩ := ifT_get k0
  have hl := Nat.eq_of_beq_eq_true hl
  obtain ⟨w2, back⟩ := f vs H1 R w1
  have hvl := w2.lenL
  refine ⟨by rw [List.length_append, ← hvl]; exact hl, ts ++ dvs.map .fl, EnvA X.K env2 σ • R, _, _, ?_, k2, fun t ts' v H' k3 w3 => ok _ _ _ _ (force_mp k3) ?_, fun x ts' cls d H' k3 w3 => hE e R er x _ cls d H' (force_mp k3) ?_⟩
  · rw [RepL_app hvl, RepL_fl, star_emp]
    exact w2
  all_goals
    have l0 : ts'.length = (vs ++ dvs).length := w3.drop.lenL
    rw [List.length_append] at l0
    have l4 : (ts'.take as.length).length = as.length := by simp; omega
    have l5 : (ts'.take as.length).length = vs.length := by omega
    have e1 : ts' = ts'.take as.length ++ ts'.drop as.length := (List.take_append_drop _ _).symm
    have e2 : giveA as ts' env2 = giveA as (ts'.take as.length) env2 := by
      rw [e1, giveA_cut l4, ← e1]
    rw [e2]
    rw [e1, RepL_app l5] at w3
  · have w4 : Wd H' (RepL X.K (ts'.drop as.length) dvs • (RepL X.K (ts'.take as.length) vs • EnvA X.K env2 σ • (Rep X.K t v • R))) := w3.eq (by ac_rfl)
    exact (back _ H' _ l4 w4.drop).eq (by ac_rfl)
  · have w4 : Wd H' (RepL X.K (ts'.drop as.length) dvs • (RepL X.K (ts'.take as.length) vs • EnvA X.K env2 σ • (ExnA X.K x cls d • R))) := w3.eq (by ac_rfl)
    exact (back _ H' _ l4 w4.drop).eq (by ac_rfl)
/-- a call of a def that lets no exception out -/
def sCall0 (n : Nat) (φ : FT) (dvs : List V) (γ : SA) : SE := fun env k e => γ env (fun as env1 => takeA as env1 fun ts env2 => ifT (Nat.beq (ts.length + dvs.length) n) (φ (ts ++ dvs.map .fl) (fun t ts' => force (giveA as ts' env2) (k t)) (fun _ _ => False))) e
theorem call0_of {σ : L2.St} {H : Hp} {Q : VK} (h : tE X.K W (sCall0 n φ dvs γ) σ H Q) : tCall (spT X.K n φ) dvs E0 (tA X.K W γ) σ H Q := by
  obtain ⟨env, R, k', e, w, q, ok, er⟩ := h
  refine ⟨env, R, _, e, w, q, fun as env1 vs H1 k1 w1 => ?_, er⟩
  obtain ⟨ts, env2, k0, l1, l2, g1, g2, g3, f⟩ := take_of (K := X.K) (σ := σ) k1
  obtain ⟨hl, k2⟩ := ifT_get k0
  have hl := Nat.eq_of_beq_eq_true hl
  obtain ⟨w2, back⟩ := f vs H1 R w1
  have hvl := w2.lenL
  refine ⟨by rw [List.length_append, ← hvl]; exact hl, ts ++ dvs.map .fl, EnvA X.K env2 σ • R, _, _, ?_, k2, fun t ts' v H' k3 w3 => ok _ _ _ _ (force_mp k3) ?_, fun x ts' cls d H' k3 w3 => k3.elim⟩
  · rw [RepL_app hvl, RepL_fl, star_emp]
    exact w2
  have l0 : ts'.length = (vs ++ dvs).length := w3.drop.lenL
  rw [List.length_append] at l0
  have l4 : (ts'.take as.length).length = as.length := by simp; omega
  have l5 : (ts'.take as.length).length = vs.length := by omega
  have e1 : ts' = ts'.take as.length ++ ts'.drop as.length := (List.take_append_drop _ _).symm
  have e2 : giveA as ts' env2 = giveA as (ts'.take as.length) env2 := by
    rw [e1, giveA_cut l4, ← e1]
  rw [e2]
  rw [e1, RepL_app l5] at w3
  have w4 : Wd H' (RepL X.K (ts'.drop as.length) dvs • (RepL X.K (ts'.take as.length) vs • EnvA X.K env2 σ • (Rep X.K t v • R))) := w3.eq (by ac_rfl)
  exact (back _ H' _ l4 w4.drop).eq (by ac_rfl)
theorem d_call0 (F : FnOk X.prog X.w X.K X.mg X.base CX0 k f fd ps (spT X.K n φ)) (hr : Room k X.A) (hg : Gl X x) (hm : X.mg x = some (.ref f)) (hk : PySem.W.keepIn X.K (.ref f) = true) (hb : Binds X.K fd ps ds) (hd : Vals dvs ds)
    (ha : PDA X W (a :: es) γ) (hdb : (x == ("__debug__" : Str)) = false := by decide) (he : starEach (a :: es) X.env = (false, eval a X.env) :: starEach es X.env := by rfl) (hpl : (backTo pos (starEach es X.env)).any (·.1) = false := by rfl) :
    PD X W (.Call (.Name x p1) (a :: es) [] pos) (sCall0 n φ dvs γ) :=
  pe_weak (pe_call F hr hg hm hk hb hd pass0 ha hdb he hpl) fun _ _ _ h => call0_of h
end
/-! ### operators -/
section
variable {K : PySem.W.Frag}
theorem wd_fl2 {H : Hp} {x y a b : V} {A : Asn} (w : Wd H (Rep K (.fl x) a • Rep K (.fl y) b • A)) : a = x ∧ b = y ∧ Wd H A := ⟨wd_fl w, wd_fl w.drop, w.drop.drop⟩
def fI (C : Int → Int → Prop) (g : Int → Int → V) : F2 := fun t u k => asI t fun i => asI u fun j => C i j ∧ k (.fl (g i j))
def fI0 (g : Int → Int → V) : F2 := fun t u k => asI t fun i => asI u fun j => k (.fl (g i j))
theorem rb_I {C : Int → Int → Prop} {g : Int → Int → V} : RB K (fI C g) (rI C g) := fun ta tb x y H A k Q w h ok => by
  obtain ⟨i, rfl, h1⟩ := asI_get h
  obtain ⟨j, rfl, h2⟩ := asI_get h1
  clear h h1
  have h := h2
  obtain ⟨rfl, rfl, w1⟩ := wd_fl2 w
  clear w
  have w := w1
  clear w1
  exact ⟨i, j, rfl, rfl, h.1, ok _ _ _ h.2 (wd_ofl w)⟩
theorem rb_I0 {g : Int → Int → V} : RB K (fI0 g) (rI0 g) := fun ta tb x y H A k Q w h ok => by
  obtain ⟨i, rfl, h1⟩ := asI_get h
  obtain ⟨j, rfl, h2⟩ := asI_get h1
  clear h h1
  have h := h2
  obtain ⟨rfl, rfl, w1⟩ := wd_fl2 w
  clear w
  have w := w1
  clear w1
  exact ⟨i, j, rfl, rfl, ok _ _ _ h (wd_ofl w)⟩
/-- one of two rules, by the trees' kinds -/
theorem RB.or {f g : F2} {r s : R2} (h1 : RB K f r) (h2 : RB K g s) : RB K (fun t u k => f t u k ∨ g t u k) (fun x y H Q => r x y H Q ∨ s x y H Q) := fun ta tb x y H A k Q w h ok => h.imp (fun z => h1 ta tb x y H A k Q w z ok) fun z => h2 ta tb x y H A k Q w z ok
theorem RB.imp {f g : F2} {r : R2} (h1 : RB K f r) (h : ∀ t u k, g t u k → f t u k) : RB K g r := fun ta tb x y H A k Q w z ok => h1 ta tb x y H A k Q w (h _ _ _ z) ok
def fS (C : Str → Str → Prop) (g : Str → Str → V) : F2 := fun t u k => asS t fun i => asS u fun j => C i j ∧ k (.fl (g i j))
theorem rb_S {C : Str → Str → Prop} {g : Str → Str → V} : RB K (fS C g) (fun x y H Q => ∃ i j, x = .str i ∧ y = .str j ∧ C i j ∧ Q (g i j) H) := fun ta tb x y H A k Q w h ok => by
  obtain ⟨i, rfl, h1⟩ := asS_get h
  obtain ⟨j, rfl, h2⟩ := asS_get h1
  clear h h1
  have h := h2
  obtain ⟨rfl, rfl, w1⟩ := wd_fl2 w
  clear w
  have w := w1
  clear w1
  exact ⟨i, j, rfl, rfl, h.1, ok _ _ _ h.2 (wd_ofl w)⟩
theorem rb_S0 {g : Str → Str → V} : RB K (fS (fun _ _ => True) g) (fun x y H Q => ∃ i j, x = .str i ∧ y = .str j ∧ Q (g i j) H) := fun ta tb x y H A k Q w h ok => by
  obtain ⟨i, rfl, h1⟩ := asS_get h
  obtain ⟨j, rfl, h2⟩ := asS_get h1
  clear h h1
  have h := h2
  obtain ⟨rfl, rfl, w1⟩ := wd_fl2 w
  clear w
  have w := w1
  clear w1
  exact ⟨i, j, rfl, rfl, ok _ _ _ h.2 (wd_ofl w)⟩
/-- flat values -/
def asF (t : T) (k : V → Prop) : Prop := match t with
  | .d (.fl x) => k x
  | _ => False
theorem asF_get {t : T} {k : V → Prop} (h : asF t k) : ∃ x, t = .fl x ∧ k x := by
  unfold asF at h
  split at h
  · exact ⟨_, rfl, h⟩
  · exact h.elim
def fEq : F2 := fun t u k => asF t fun x => asF u fun y => ifT (scal x y) (k (.bl (decide (x = y))))
def fNe : F2 := fun t u k => asF t fun x => asF u fun y => ifT (scal x y) (k (.bl (!decide (x = y))))
theorem rb_eq : RB K fEq rEq := fun ta tb x y H A k Q w h ok => by
  obtain ⟨i, rfl, h1⟩ := asF_get h
  obtain ⟨j, rfl, h2⟩ := asF_get h1
  clear h h1
  have h := ifT_get h2
  obtain ⟨rfl, rfl, w1⟩ := wd_fl2 w
  clear w
  have w := w1
  clear w1
  exact ⟨h.1, ok _ _ _ h.2 (wd_ofl w)⟩
theorem rb_ne : RB K fNe rNe := fun ta tb x y H A k Q w h ok => by
  obtain ⟨i, rfl, h1⟩ := asF_get h
  obtain ⟨j, rfl, h2⟩ := asF_get h1
  clear h h1
  have h := ifT_get h2
  obtain ⟨rfl, rfl, w1⟩ := wd_fl2 w
  clear w
  have w := w1
  clear w1
  exact ⟨h.1, ok _ _ _ h.2 (wd_ofl w)⟩
/-- is None -/
def notRef : T → Bool
  | .gone => false
  | .d .any => false
  | _ => true
def isNonT : T → Bool
  | .d (.fl .non) => true
  | _ => false
theorem isNon_of {H : Hp} {t : T} {v : V} {A : Asn} (h : notRef t = true) (w : Wd H (Rep K t v • A)) : decide (v = .non) = isNonT t := by
  have hd := wd_den w
  cases t with
  | gone => cases h
  | d x =>
    cases x with
    | any => cases h
    | fl y =>
      simp only [frz, Den] at hd
      subst hd
      cases v <;> rfl
    | tup _ => simp only [frz, Den] at hd; obtain ⟨p, vs, rfl, _⟩ := hd; rfl
    | lst _ => simp only [frz, Den] at hd; obtain ⟨p, vs, rfl, _⟩ := hd; rfl
    | dK _ _ => simp only [frz, Den] at hd; obtain ⟨p, vs, rfl, _⟩ := hd; rfl
    | dT _ _ => simp only [frz, Den] at hd; obtain ⟨p, vs, rfl, _⟩ := hd; rfl
    | ins _ _ _ => simp only [frz, Den] at hd; obtain ⟨p, dx, vs, rfl, _⟩ := hd; rfl
  | tup _ => simp only [frz, Den] at hd; obtain ⟨p, vs, rfl, _⟩ := hd; rfl
  | lst _ => simp only [frz, Den] at hd; obtain ⟨p, vs, rfl, _⟩ := hd; rfl
  | dK _ _ => simp only [frz, Den] at hd; obtain ⟨p, vs, rfl, _⟩ := hd; rfl
  | dT _ _ => simp only [frz, Den] at hd; obtain ⟨p, vs, rfl, _⟩ := hd; rfl
  | ins _ _ _ => simp only [frz, Den] at hd; obtain ⟨p, dx, vs, rfl, _⟩ := hd; rfl
def fIsN : F2 := fun t u k => asF u fun y => ifT (y == .non) (ifT (notRef t) (k (.bl (isNonT t))))
def fNotN : F2 := fun t u k => asF u fun y => ifT (y == .non) (ifT (notRef t) (k (.bl (!isNonT t))))
theorem rb_isN : RB K fIsN (fun x y H Q => y = .non ∧ Q (.bl (decide (x = .non))) H) := fun ta tb x y H A k Q w h ok => by
  obtain ⟨j, rfl, h1⟩ := asF_get h
  clear h
  have h3 := ifT_get h1
  have h4 := ifT_get h3.2
  have h : j = V.non ∧ notRef ta = true ∧ _ := ⟨by simpa using h3.1, h4.1, h4.2⟩
  have e := isNon_of h.2.1 w
  have e2 := wd_fl w.drop
  refine ⟨by rw [e2]; exact h.1, ?_⟩
  rw [e]
  exact ok _ _ _ h.2.2 (wd_ofl w.drop.drop)
theorem rb_notN : RB K fNotN (fun x y H Q => y = .non ∧ Q (.bl (!decide (x = .non))) H) := fun ta tb x y H A k Q w h ok => by
  obtain ⟨j, rfl, h1⟩ := asF_get h
  clear h
  have h3 := ifT_get h1
  have h4 := ifT_get h3.2
  have h : j = V.non ∧ notRef ta = true ∧ _ := ⟨by simpa using h3.1, h4.1, h4.2⟩
  have e := isNon_of h.2.1 w
  have e2 := wd_fl w.drop
  refine ⟨by rw [e2]; exact h.1, ?_⟩
  rw [e]
  exact ok _ _ _ h.2.2 (wd_ofl w.drop.drop)
/-! subscripts -/
/-- what is there -/
def asO {α : Type} (o : Option α) (k : α → Prop) : Prop := match o with
  | some x => k x
  | none => False
theorem asO_get {α : Type} {o : Option α} {k : α → Prop} (h : asO o k) : ∃ x, o = some x ∧ k x := by
  cases o with
  | none => exact h.elim
  | some x => exact ⟨x, rfl, h⟩
theorem asO_of {α : Type} {o : Option α} {k : α → Prop} {x : α} (e : o = some x) (h : k x) : asO o k := by
  rw [e]
  exact h
/-- the item of a list, of a tuple, of a text -/
def fIx : F2 := fun t u k => asI u fun i => match t with
  | .d (.lst ds) => asO (atI ds i) fun x => k (.d x)
  | .d (.tup ds) => asO (atI ds i) fun x => k (.d x)
  | .lst ts => asO (atI ts i) k
  | .tup ts => asO (atI ts i) k
  | .d (.fl (.str z)) => z.length ≤ sizeLine ∧ asO (atI z.cps.toList i) fun c => k (.str ⟨#[c]⟩)
  | _ => False
theorem atI_len {α β : Type} {xs : List α} {ys : List β} {i : Int} {x : α} (h : atI xs i = some x) (hl : xs.length = ys.length) : ∃ j, xs[j]? = some x ∧ j < ys.length ∧ atI ys i = ys[j]? := by
  unfold atI at h ⊢
  cases e : ixN xs.length i with
  | none => rw [e] at h; cases h
  | some j =>
    rw [e] at h
    have hj := ixN_lt e
    exact ⟨j, h, by omega, by rw [← hl, e]; rfl⟩
theorem DenL_at {G : Hp} {ds : List D} {vs : List V} {i : Int} {d : D} (h : DenL K G ds vs) (e : atI ds i = some d) : ∃ v, atI vs i = some v ∧ Den K G d v := by
  obtain ⟨j, h1, h2, h3⟩ := atI_len e (DenL_len h)
  obtain ⟨v, e2, hd⟩ := DenL_get h h1
  exact ⟨v, h3.trans e2, hd⟩
theorem RepL_at {ts : List T} {vs : List V} {i : Int} {t : T} (hl : ts.length = vs.length) (e : atI ts i = some t) : ∃ v A, atI vs i = some v ∧ RepL K ts vs = Rep K t v • A := by
  obtain ⟨j, h1, h2, h3⟩ := atI_len e hl
  have e2 := List.getElem?_eq_getElem h2
  exact ⟨vs[j], _, h3.trans e2, RepL_take h1 e2⟩
theorem kn_of_den {H : Hp} {x : D} {v : V} {A : Asn} (w : Wd H (Rep K (.d x) v • A)) {y : D} {u : V} (f : ∀ G, Same G H → Den K G x v → Den K G y u) : Wd H (Rep K (.d y) u • A) := by
  obtain ⟨G, h, a, b, c, d, h1, h2, s, p, q⟩ := w
  rw [kn_den] at p
  exact ⟨G, h, a, b, c, d, h1, h2, s, kn_den.mpr ⟨p.1, f G a p.2⟩, q⟩
theorem rb_ix : RB K fIx (rIx K) := fun ta tb x y H A k Q w h ok => by
  obtain ⟨i, rfl, h1⟩ := asI_get h
  clear h
  have h := h1
  clear h1
  have e2 := wd_fl w.drop
  subst e2
  replace w : Wd H (Rep K ta x • A) := (w.eq (star_left _ _ _)).drop
  split at h
  · rename_i ds
    obtain ⟨d, e, hk⟩ := asO_get h
    · obtain ⟨G, h', a, b, c, d', h1, h2, s, p, q⟩ := w
      rw [kn_den] at p
      obtain ⟨p0, p⟩ := p
      simp only [Den] at p
      obtain ⟨r, vs, rfl, hT, hL⟩ := p
      obtain ⟨v, e3, hd⟩ := DenL_at hL e
      exact .inl ⟨r, vs, i, v, rfl, rfl, Same.seq a hT, e3, ok _ _ _ hk ⟨G, h', a, b, c, d', h1, h2, s, kn_den.mpr ⟨p0, hd⟩, q⟩⟩
  · rename_i ds
    obtain ⟨d, e, hk⟩ := asO_get h
    · obtain ⟨G, h', a, b, c, d', h1, h2, s, p, q⟩ := w
      rw [kn_den] at p
      obtain ⟨p0, p⟩ := p
      simp only [Den] at p
      obtain ⟨r, vs, rfl, hT, hL⟩ := p
      obtain ⟨v, e3, hd⟩ := DenL_at hL e
      exact .inr (.inl ⟨r, vs, i, v, rfl, rfl, (hT.same a).sq, e3, ok _ _ _ hk ⟨G, h', a, b, c, d', h1, h2, s, kn_den.mpr ⟨p0, hd⟩, q⟩⟩)
  · obtain ⟨t, e, hk⟩ := asO_get h
    · obtain ⟨r, vs, rfl, w2⟩ := wd_unlst w
      obtain ⟨v, A', e3, e4⟩ := RepL_at (K := K) w2.drop.lenL e
      rw [e4] at w2
      refine .inl ⟨r, vs, i, v, rfl, rfl, SqL.of w2.get, e3, ok _ _ _ hk ?_⟩
      have w3 := w2.drop
      have w4 : Wd H (A' • (Rep K t v • A)) := w3.eq (by ac_rfl)
      exact w4.drop
  · rename_i ts
    obtain ⟨t, e, hk⟩ := asO_get h
    · obtain ⟨r, ts', vs, rfl, hT, e5, w2, hl⟩ := wd_untup (t := .tup ts) (k := fun us => us = ts) rfl w
      subst e5
      obtain ⟨v, A', e3, e4⟩ := RepL_at (K := K) hl e
      rw [e4] at w2
      refine .inr (.inl ⟨r, vs, i, v, rfl, rfl, hT, e3, ok _ _ _ hk ?_⟩)
      have w4 : Wd H (A' • (Rep K t v • A)) := w2.eq (by ac_rfl)
      exact w4.drop
  · rename_i z
    obtain rfl := wd_fl w
    obtain ⟨hz, h⟩ := h
    obtain ⟨c, e, hk⟩ := asO_get h
    · exact .inr (.inr ⟨z, i, c, rfl, rfl, hz, e, ok _ _ _ hk (wd_ofl w.drop)⟩)
  · exact h.elim
end
end WC

/-! WLk: operators of several kinds, slices, calls of built-ins, methods. -/
namespace WC
open PySem PySem.Spec PyProof.Rows L2
section
variable {X : Cx} {K : PySem.W.Frag}
/-! ### list + list -/
def rCatS (K : PySem.W.Frag) : R2 := fun x y H Q => ∃ l b xs zs, x = .ref l ∧ y = .ref b ∧ SqL K H l xs ∧ SqL K H b zs ∧ xs.length + zs.length ≤ sizeLine ∧ ∀ p, H p = none → Q (.ref p) (upd H p (.lst (xs ++ zs)))
theorem op_catS : OpR X (binaryOp .Add) (rCatS X.K) := by
  intro pins s σ H x y v u Q I rx ry h
  obtain ⟨l, b, xs, zs, rfl, rfl, hH, hB, hz, q⟩ := h
  cases rx
  cases ry
  obtain ⟨its, r, pl, z⟩ := I.list hH
  obtain ⟨its2, r2, pl2, z2⟩ := I.list hB
  obtain ⟨⟨cls, dd, data, sl⟩, n, ho, hc, hdn, hd⟩ := pl
  obtain ⟨⟨cls2, dd2, data2, sl2⟩, n2, ho2, hc2, hdn2, hd2⟩ := pl2
  simp only at hc hd hc2 hd2
  subst hc hd hc2 hd2
  have ea : its.toArray ++ its2.toArray = (its ++ its2).toArray := by simp
  have l1 := r.length
  have l2 := r2.length
  refine concat_meets ⟨_, ho, rfl⟩ ⟨_, ho2, rfl⟩ noFill_list_add seq_list_add PySem.F.slot_list_add PySem.F.entry_list_add (PySem.F.args_list_add_2 _ _) (PyProof.Rows.list_addW l b its.toArray its2.toArray n n2 dd dd2 sl sl2 (by simp; omega)) ⟨ho, ho2, ?_⟩
  rw [ea]
  exact ⟨.ref _, _, I.lnew (t' := s.toks) (r.append r2) (by rw [List.length_append]; omega), rfl, q _ I.fresh⟩
theorem wd_seq2 {H : Hp} {t u : T} {x y : V} {A : Asn} {k : List T → List T → Prop} (h : itL t fun xs => itL u fun ys => k xs ys) (w : Wd H (Rep K t x • Rep K u y • A)) :
    ∃ (p q : Addr) (ts us : List T) (vs ws : List V), x = .ref p ∧ y = .ref q ∧ SqL K H p vs ∧ SqL K H q ws ∧ ts.length = vs.length ∧ us.length = ws.length ∧ k ts us ∧ Wd H (RepL K ts vs • RepL K us ws • A) := by
  obtain ⟨p, ts, vs, Sp, rfl, h2, l1, s1, w1⟩ := wd_unseq h w
  have w2 : Wd H (Rep K u y • (Sp • RepL K ts vs • A)) := w1.eq (by ac_rfl)
  obtain ⟨q, us, ws, Sq, rfl, h3, l2, s2, w3⟩ := wd_unseq h2 w2
  refine ⟨p, q, ts, us, vs, ws, rfl, rfl, s1 H _ (w3.eq (B := Sp • (Sq • RepL K us ws • RepL K ts vs • A)) (by ac_rfl)), s2 H _ w3, l1, l2, h3, ?_⟩
  have w4 : Wd H (Sp • Sq • (RepL K ts vs • RepL K us ws • A)) := w3.eq (by ac_rfl)
  exact w4.drop.drop
def fCat : F2 := fun t u k => itL t fun xs => itL u fun ys => xs.length + ys.length ≤ 1000000 ∧ k (.lst (xs ++ ys))
theorem le_mega {n : Nat} (h : n ≤ 1000000) : n ≤ sizeLine := Nat.le_trans h (by decide)
theorem rb_cat : RB K fCat (rCatS K) := fun ta tb x y H A k Q w h ok => by
  obtain ⟨p, q, ts, us, vs, ws, rfl, rfl, s1, s2, l1, l2, ⟨hl, h2⟩, w2⟩ := wd_seq2 h w
  refine ⟨p, q, vs, ws, rfl, rfl, s1, s2, le_mega (by omega), fun r hr => ok _ _ _ h2 ?_⟩
  have w3 := w2.alloc (o := .lst (vs ++ ws)) hr fun xs z => by cases z
  refine wd_lst (vs := vs ++ ws) ?_
  rw [RepL_app l1]
  exact w3.eq (by ac_rfl)
/-! ### + -/
def fAdd : F2 := fun t u k => match t with
  | .d (.fl (.int i)) => asI u fun j => k (.int (i + j))
  | .d (.fl (.str a)) => asS u fun b => a.length + b.length ≤ sizeLine ∧ k (.str (a ++ b))
  | _ => fCat t u k
def rAddA (K : PySem.W.Frag) : R2 := fun x y H Q => (rI0 fun i j => .int (i + j)) x y H Q ∨ (∃ i j, x = .str i ∧ y = .str j ∧ i.length + j.length ≤ sizeLine ∧ Q (.str (i ++ j)) H) ∨ rCatS K x y H Q
theorem op_addA : OpR X (binaryOp .Add) (rAddA X.K) := op_add.or (op_add_str.or op_catS)
theorem rb_add : RB K fAdd (rAddA K) := fun ta tb x y H A k Q w h ok => by
  unfold fAdd at h
  split at h
  · exact .inl (rb_I0 (g := fun i j => .int (i + j)) _ _ x y H A k Q w h ok)
  · exact .inr (.inl (rb_S (C := fun a b => a.length + b.length ≤ sizeLine) (g := fun a b => .str (a ++ b)) _ _ x y H A k Q w h ok))
  · exact .inr (.inr (rb_cat _ _ x y H A k Q w h ok))
abbrev fSub : F2 := fI0 fun i j => .int (i - j)
abbrev fMul : F2 := fI CMul fun i j => .int (i * j)
abbrev fDiv : F2 := fI CDiv fun i j => .int (i / j)
abbrev fMod : F2 := fI (fun _ j => 0 < j) fun i j => .int (i % j)
abbrev fPow : F2 := fI CPow fun i j => .int (i ^ j.toNat)
/-! ### orders -/
def fCmp (f : Int → Int → Bool) (g : Str → Str → Bool) : F2 := fun t u k => match t with
  | .d (.fl (.int i)) => asI u fun j => k (.bl (f i j))
  | .d (.fl (.str a)) => asS u fun b => k (.bl (g a b))
  | _ => False
theorem rb_cmp {f : Int → Int → Bool} {g : Str → Str → Bool} : RB K (fCmp f g) (fun x y H Q => (rI0 fun i j => .bl (f i j)) x y H Q ∨ (∃ i j, x = .str i ∧ y = .str j ∧ Q (.bl (g i j)) H)) := fun ta tb x y H A k Q w h ok => by
  unfold fCmp at h
  split at h
  · exact .inl (rb_I0 (g := fun i j => .bl (f i j)) _ _ x y H A k Q w h ok)
  · rename_i a
    obtain ⟨b, rfl, h2⟩ := asS_get h
    obtain ⟨rfl, rfl, w1⟩ := wd_fl2 w
    exact .inr ⟨_, _, rfl, rfl, ok _ _ _ h2 (wd_ofl w1)⟩
  · exact h.elim
def sLt (a b : Str) : Bool := decide (a.cps.toList < b.cps.toList)
abbrev fLt : F2 := fCmp (fun i j => decide (i < j)) (fun a b => decide (a.cps.toList < b.cps.toList))
abbrev fLe : F2 := fCmp (fun i j => decide (i ≤ j)) (fun a b => !decide (b.cps.toList < a.cps.toList))
abbrev fGt : F2 := fCmp (fun i j => decide (j < i)) (fun a b => decide (b.cps.toList < a.cps.toList))
abbrev fGe : F2 := fCmp (fun i j => decide (j ≤ i)) (fun a b => !decide (a.cps.toList < b.cps.toList))
theorem op_ltA : OpR X (compareOp .Lt) (fun x y H Q => (rI0 fun i j => .bl (decide (i < j))) x y H Q ∨ (∃ i j, x = .str i ∧ y = .str j ∧ Q (.bl (decide (i.cps.toList < j.cps.toList))) H)) := op_lt.or op_lt_str
theorem op_leA : OpR X (compareOp .LtE) (fun x y H Q => (rI0 fun i j => .bl (decide (i ≤ j))) x y H Q ∨ (∃ i j, x = .str i ∧ y = .str j ∧ Q (.bl (!decide (j.cps.toList < i.cps.toList))) H)) := op_le.or op_le_str
theorem op_gtA : OpR X (compareOp .Gt) (fun x y H Q => (rI0 fun i j => .bl (decide (j < i))) x y H Q ∨ (∃ i j, x = .str i ∧ y = .str j ∧ Q (.bl (decide (j.cps.toList < i.cps.toList))) H)) := op_gt.or op_gt_str
theorem op_geA : OpR X (compareOp .GtE) (fun x y H Q => (rI0 fun i j => .bl (decide (j ≤ i))) x y H Q ∨ (∃ i j, x = .str i ∧ y = .str j ∧ Q (.bl (!decide (i.cps.toList < j.cps.toList))) H)) := op_ge.or op_ge_str
/-! ### in: one sign in a text -/
def fInC : F2 := fun t u k => asS t fun s => asS u fun z => match s.cps.toList with
  | [c] => k (.bl (decide (c ∈ z.cps.toList)))
  | _ => False
def fNiC : F2 := fun t u k => asS t fun s => asS u fun z => match s.cps.toList with
  | [c] => k (.bl (!decide (c ∈ z.cps.toList)))
  | _ => False
theorem str_of1 {s : Str} {c : Nat} (h : s.cps.toList = [c]) : s = ⟨#[c]⟩ := by
  cases s with
  | mk cps =>
    have h : cps.toList = [c] := h
    have e : cps = #[c] := by
      apply Array.toList_inj.mp
      exact h
    rw [e]
theorem rb_inC : RB K fInC (fun x y H Q => ∃ (c : Nat) (z : Str), x = .str ⟨#[c]⟩ ∧ y = .str z ∧ Q (.bl (decide (c ∈ z.cps.toList))) H) := fun ta tb x y H A k Q w h ok => by
  obtain ⟨s, rfl, h1⟩ := asS_get h
  obtain ⟨z, rfl, h2⟩ := asS_get h1
  obtain ⟨rfl, rfl, w1⟩ := wd_fl2 w
  split at h2
  · rename_i c e
    rw [str_of1 e]
    exact ⟨c, z, rfl, rfl, ok _ _ _ h2 (wd_ofl w1)⟩
  · exact h2.elim
theorem rb_niC : RB K fNiC (fun x y H Q => ∃ (c : Nat) (z : Str), x = .str ⟨#[c]⟩ ∧ y = .str z ∧ Q (.bl (!decide (c ∈ z.cps.toList))) H) := fun ta tb x y H A k Q w h ok => by
  obtain ⟨s, rfl, h1⟩ := asS_get h
  obtain ⟨z, rfl, h2⟩ := asS_get h1
  obtain ⟨rfl, rfl, w1⟩ := wd_fl2 w
  split at h2
  · rename_i c e
    rw [str_of1 e]
    exact ⟨c, z, rfl, rfl, ok _ _ _ h2 (wd_ofl w1)⟩
  · exact h2.elim
/-! ### slices -/
abbrev FSl := T → Option Int → Option Int → (T → Prop) → Prop
def RSl (K : PySem.W.Frag) (f : FSl) (r : V → Option Int → Option Int → Hp → VK → Prop) : Prop := ∀ (t : T) (lo hi : Option Int) (x : V) (H : Hp) (A : Asn) (k : T → Prop) (Q : VK), Wd H (Rep K t x • A) → f t lo hi k → (∀ t v H', k t → Wd H' (Rep K t v • A) → Q v H') → r x lo hi H Q
abbrev SO := Nv → (Option Int → Nv → Prop) → XQ → Prop
def tO (K : PySem.W.Frag) (W : WX) (o : SO) : TO := fun σ H Q => ∃ env R k e, Wd H (EnvA K env σ • R) ∧ o env k e ∧ (∀ x env' H', k x env' → Wd H' (EnvA K env' σ • R) → Q x H') ∧ ErE K W σ R e
def sNoPart : SO := fun env k _ => k none env
def sPart (α : SE) : SO := fun env k e => α env (fun t env' => asI t fun i => k (some i) env') e
variable {W : WX} {a b c : Expr} {lo hi : Option Expr} {es : List Expr} {α β : SE} {γ : SA} {o o' : SO} {pos p1 p2 : Pos}
def PDO (X : Cx) (W : WX) (e : Option Expr) (o : SO) : Prop := PO X e (tO X.K W o)
theorem po_weak {e : Option Expr} {t t' : TO} (h : PO X e t) (f : ∀ σ H Q, t' σ H Q → t σ H Q) : PO X e t' := ⟨fun pins s σ H Q I q => h.run pins s σ H Q I (f _ _ _ q)⟩
theorem d_onone : PDO X W none sNoPart := po_weak po_none fun σ H Q ⟨env, R, k, e, w, h, ok, er⟩ => ok _ _ _ h w
theorem d_osome (h : PD X W a α) : PDO X W (some a) (sPart α) := po_weak (po_some h) fun σ H Q ⟨env, R, k, e, w, h, ok, er⟩ => ⟨env, R, _, e, w, h, fun t env1 v H1 k1 w1 => by
  obtain ⟨i, rfl, k2⟩ := asI_get k1
  obtain rfl := wd_fl w1
  exact ⟨i, rfl, ok _ _ _ k2 w1.drop⟩, er⟩
def sSl (f : FSl) (α : SE) (o o' : SO) : SE := fun env k e => α env (fun t env1 => o env1 (fun l env2 => o' env2 (fun h env3 => f t l h fun u => k u env3) e) e) e
theorem d_sl {f : FSl} {r : V → Option Int → Option Int → Hp → VK → Prop} (hr : SlR X r) (hf : RSl X.K f r) (he : PD X W a α) (hl : PDO X W lo o) (hh : PDO X W hi o') : PD X W (.Subscript a (.Slice lo hi none p2) pos) (sSl f α o o') :=
  pe_weak (pe_slice hr he hl hh) fun σ H Q ⟨env, R, k, e, w, h, ok, er⟩ => ⟨env, R, _, e, w, h, fun t env1 x H1 k1 w1 => by
    refine ⟨env1, Rep X.K t x • R, _, e, w1.eq (by ac_rfl), k1, fun l env2 H2 k2 w2 => ?_, er.more⟩
    refine ⟨env2, Rep X.K t x • R, _, e, w2, k2, fun u env3 H3 k3 w3 => ?_, er.more⟩
    exact hf t l u x H3 (EnvA X.K env3 σ • R) _ Q (w3.eq (by ac_rfl)) k3 fun z v H4 k4 w4 => ok _ _ _ _ k4 w4, er⟩
def cutG {α : Type} (xs : List α) (lo hi : Option Int) : List α := (xs.drop (HT.sIx xs.length 0 lo)).take (HT.sIx xs.length xs.length hi - HT.sIx xs.length 0 lo)
/-- a slice of a list, of a text -/
def fSl : FSl := fun t lo hi k => match t with
  | .d (.fl (.str z)) => z.length ≤ sizeLine ∧ k (.str (cutS z lo hi))
  | _ => itL t fun ts => k (.lst (cutG ts lo hi))
theorem RepL_cut : ∀ {ts : List T} {vs : List V} {i j : Nat}, ts.length = vs.length → ∃ A, RepL K ts vs = RepL K ((ts.drop i).take j) ((vs.drop i).take j) • A := by
  intro ts vs i j hl
  have e1 : ts = ts.take i ++ ((ts.drop i).take j ++ (ts.drop i).drop j) := by rw [List.take_append_drop, List.take_append_drop]
  have e2 : vs = vs.take i ++ ((vs.drop i).take j ++ (vs.drop i).drop j) := by rw [List.take_append_drop, List.take_append_drop]
  refine ⟨RepL K (ts.take i) (vs.take i) • RepL K ((ts.drop i).drop j) ((vs.drop i).drop j), ?_⟩
  have e3 : RepL K ts vs = RepL K (ts.take i ++ ((ts.drop i).take j ++ (ts.drop i).drop j)) (vs.take i ++ ((vs.drop i).take j ++ (vs.drop i).drop j)) := by rw [← e1, ← e2]
  rw [e3, RepL_app (by simp [hl]), RepL_app (by simp [hl])]
  ac_rfl
theorem rsl : RSl K fSl (fun x lo hi H Q => rSlL K x lo hi H Q ∨ rSlS x lo hi H Q) := fun t lo hi x H A k Q w h ok => by
  unfold fSl at h
  split at h
  · rename_i z
    obtain rfl := wd_fl w
    exact .inr ⟨z, rfl, h.1, ok _ _ _ h.2 (wd_ofl w.drop)⟩
  · obtain ⟨p, ts, vs, Sp, rfl, h2, l1, s1, w1⟩ := wd_unseq h w
    refine .inl ⟨p, vs, rfl, s1 H _ w1, fun q hq => ok _ _ _ h2 ?_⟩
    have w2 := w1.drop.alloc (o := .lst (cutV vs lo hi)) hq fun xs z => by cases z
    refine wd_lst (vs := cutV vs lo hi) ?_
    unfold cutG cutV
    rw [← l1]
    obtain ⟨A', e⟩ := RepL_cut (K := K) (i := HT.sIx ts.length 0 lo) (j := HT.sIx ts.length ts.length hi - HT.sIx ts.length 0 lo) l1
    rw [e] at w2
    unfold cutV at w2
    rw [← l1] at w2
    have w3 : Wd (upd H q (.lst ((vs.drop (HT.sIx ts.length 0 lo)).take (HT.sIx ts.length ts.length hi - HT.sIx ts.length 0 lo)))) (A' • (pt q (.lst ((vs.drop (HT.sIx ts.length 0 lo)).take (HT.sIx ts.length ts.length hi - HT.sIx ts.length 0 lo))) • RepL K ((ts.drop (HT.sIx ts.length 0 lo)).take (HT.sIx ts.length ts.length hi - HT.sIx ts.length 0 lo)) ((vs.drop (HT.sIx ts.length 0 lo)).take (HT.sIx ts.length ts.length hi - HT.sIx ts.length 0 lo)) • A)) := w2.eq (by ac_rfl)
    exact w3.drop
theorem sl_A : SlR X (fun x lo hi H Q => rSlL X.K x lo hi H Q ∨ rSlS x lo hi H Q) := sl_list.or sl_str
/-! ### calls -/
/-- of one argument -/
def fc1 (f : T → (T → Prop) → Prop) : FC := fun ts k => match ts with
  | [t] => f t k
  | _ => False
def fc2 (f : F2) : FC := fun ts k => match ts with
  | [t, u] => f t u k
  | _ => False
theorem rc1 {f : T → (T → Prop) → Prop} {r : V → Hp → VK → Prop} (h : ∀ (t : T) (x : V) (H : Hp) (A : Asn) (k : T → Prop) (Q : VK), Wd H (Rep K t x • A) → f t k → (∀ t v H', k t → Wd H' (Rep K t v • A) → Q v H') → r x H Q) :
    RC K (fc1 f) (fun xs H Q => ∃ x, xs = [x] ∧ r x H Q) := fun ts vs H A k Q w q ok => by
  unfold fc1 at q
  split at q
  · rename_i t
    have hl := w.lenL
    match vs, hl with
    | [v], _ =>
      rw [RepL_cons, RepL_nil, star_emp] at w
      exact ⟨v, rfl, h t v H A k Q w q ok⟩
  · exact q.elim
theorem rc2 {f : F2} {r : R2} (h : RB K f r) : RC K (fc2 f) (fun xs H Q => ∃ x y, xs = [x, y] ∧ r x y H Q) := fun ts vs H A k Q w q ok => by
  unfold fc2 at q
  split at q
  · rename_i t u
    have hl := w.lenL
    match vs, hl with
    | [v, v2], _ =>
      rw [RepL_cons, RepL_cons, RepL_nil, star_emp] at w
      exact ⟨v, v2, rfl, h t u v v2 H A k Q (w.eq (star_assoc _ _ _)) q ok⟩
  · exact q.elim
theorem callR_imp {f : Value} {r r' : List V → Hp → VK → Prop} (h : CallR X f r) (i : ∀ xs H Q, r' xs H Q → r xs H Q) : CallR X f r' := fun pins s σ H xs us Q I rv q => h pins s σ H xs us Q I rv (i _ _ _ q)
/-- how long -/
def fLen (t : T) (k : T → Prop) : Prop := match t with
  | .lst ts => k (.int (ts.length : Nat))
  | .d (.lst ds) => k (.int (ds.length : Nat))
  | .tup ts => k (.int (ts.length : Nat))
  | .d (.tup ds) => k (.int (ds.length : Nat))
  | .d (.fl (.str z)) => z.length ≤ sizeLine ∧ k (.int (z.length : Nat))
  | _ => False
theorem rc_len : RC K (fc1 fLen) (fun xs H Q => ∃ x, xs = [x] ∧ ∃ n : Nat, LenV K x H n ∧ Q (.int n) H) := rc1 fun t x H A k Q w h ok => by
  unfold fLen at h
  split at h
  · rename_i ts
    obtain ⟨p, us, vs, Sp, rfl, e, l1, s1, w1⟩ := wd_unseq (t := .lst ts) (k := fun us => us = ts) rfl w
    subst e
    exact ⟨_, .inl ⟨vs, s1 H _ w1, l1⟩, ok _ _ _ h (wd_ofl w1.drop.drop)⟩
  · rename_i ds
    obtain ⟨p, us, vs, Sp, rfl, e, l1, s1, w1⟩ := wd_unseq (t := .d (.lst ds)) (k := fun us => us = ds.map .d) rfl w
    subst e
    exact ⟨_, .inl ⟨vs, s1 H _ w1, by rw [← l1, List.length_map]⟩, ok _ _ _ h (wd_ofl w1.drop.drop)⟩
  · rename_i ts
    obtain ⟨p, us, vs, Sp, rfl, e, l1, s1, w1⟩ := wd_untupS (t := .tup ts) (k := fun us => us = ts) rfl w
    subst e
    exact ⟨_, .inr ⟨vs, s1 H _ w1, l1⟩, ok _ _ _ h (wd_ofl w1.drop.drop)⟩
  · rename_i ds
    obtain ⟨p, us, vs, Sp, rfl, e, l1, s1, w1⟩ := wd_untupS (t := .d (.tup ds)) (k := fun us => us = ds.map .d) rfl w
    subst e
    exact ⟨_, .inr ⟨vs, s1 H _ w1, by rw [← l1, List.length_map]⟩, ok _ _ _ h (wd_ofl w1.drop.drop)⟩
  · rename_i z
    obtain rfl := wd_fl w
    exact ⟨_, ⟨h.1, rfl⟩, ok _ _ _ h.2 (wd_ofl w.drop)⟩
  · exact h.elim
theorem cr_len : CallR X (.builtin "len") (fun xs H Q => ∃ x, xs = [x] ∧ ∃ n : Nat, LenV X.K x H n ∧ Q (.int n) H) := callR_imp call_len fun xs H Q ⟨x, e, n, l, q⟩ => ⟨x, n, e, l, q⟩
def fAbs (t : T) (k : T → Prop) : Prop := asI t fun i => k (.int (if i < 0 then -i else i))
theorem rc_abs : RC K (fc1 fAbs) (fun xs H Q => ∃ x, xs = [x] ∧ ∃ i, x = .int i ∧ Q (.int (if i < 0 then -i else i)) H) := rc1 fun t x H A k Q w h ok => by
  obtain ⟨i, rfl, h1⟩ := asI_get h
  obtain rfl := wd_fl w
  exact ⟨i, rfl, ok _ _ _ h1 (wd_ofl w.drop)⟩
theorem cr_abs : CallR X (.builtin "abs") (fun xs H Q => ∃ x, xs = [x] ∧ ∃ i, x = .int i ∧ Q (.int (if i < 0 then -i else i)) H) := callR_imp call_abs fun xs H Q ⟨x, e, i, ex, q⟩ => ⟨i, by rw [e, ex], q⟩
/-- int of an int, of a bool -/
def fInt (t : T) (k : T → Prop) : Prop := match t with
  | .d (.fl (.int i)) => k (.int i)
  | .d (.fl (.bl b)) => k (.int (if b = true then 1 else 0))
  | _ => False
theorem rc_int : RC K (fc1 fInt) (fun xs H Q => ∃ x, xs = [x] ∧ ((∃ i, x = .int i ∧ Q (.int i) H) ∨ ∃ b, x = .bl b ∧ Q (.int (if b then 1 else 0)) H)) := rc1 fun t x H A k Q w h ok => by
  unfold fInt at h
  split at h
  · obtain rfl := wd_fl w
    exact .inl ⟨_, rfl, ok _ _ _ h (wd_ofl w.drop)⟩
  · obtain rfl := wd_fl w
    exact .inr ⟨_, rfl, ok _ _ _ h (wd_ofl w.drop)⟩
  · exact h.elim
theorem cr_int : CallR X (.type "int") (fun xs H Q => ∃ x, xs = [x] ∧ ((∃ i, x = .int i ∧ Q (.int i) H) ∨ ∃ b, x = .bl b ∧ Q (.int (if b then 1 else 0)) H)) := callR_imp call_int1 fun xs H Q ⟨x, e, h⟩ => by
  subst e
  rcases h with ⟨i, e, q⟩ | ⟨b, e, q⟩
  · exact .inl ⟨i, by rw [e], q⟩
  · exact .inr ⟨b, by rw [e], q⟩
abbrev fMax2 : F2 := fI0 fun i j => .int (if j > i then j else i)
abbrev fMin2 : F2 := fI0 fun i j => .int (if j < i then j else i)
theorem cr_max2 (hc : X.calm = true) : CallR X (.builtin "max") (fun xs H Q => ∃ x y, xs = [x, y] ∧ (rI0 fun i j => .int (if j > i then j else i)) x y H Q) := callR_imp (call_max2 hc) fun xs H Q ⟨x, y, e, i, j, e1, e2, q⟩ => ⟨i, j, by rw [e, e1, e2], q⟩
theorem cr_min2 (hc : X.calm = true) : CallR X (.builtin "min") (fun xs H Q => ∃ x y, xs = [x, y] ∧ (rI0 fun i j => .int (if j < i then j else i)) x y H Q) := callR_imp (call_min2 hc) fun xs H Q ⟨x, y, e, i, j, e1, e2, q⟩ => ⟨i, j, by rw [e, e1, e2], q⟩
def fDivmod : F2 := fun t u k => asI t fun i => asI u fun j => CDiv i j ∧ k (.d (.tup [.int (i / j), .int (i % j)]))
theorem rb_divmod : RB K fDivmod (fun x y H Q => ∃ i j, x = .int i ∧ y = .int j ∧ CDiv i j ∧ ∀ p, H p = none → Q (.ref p) (upd H p (.tup [.int (i / j), .int (i % j)]))) := fun ta tb x y H A k Q w h ok => by
  obtain ⟨i, rfl, h1⟩ := asI_get h
  obtain ⟨j, rfl, h2⟩ := asI_get h1
  obtain ⟨rfl, rfl, w1⟩ := wd_fl2 w
  refine ⟨i, j, rfl, rfl, h2.1, fun p hp => ok _ _ _ h2.2 ?_⟩
  have w2 := wd_newTup (K := K) (vs := [.int (i / j), .int (i % j)]) w1 hp
  refine wd_mkTup (K := K) (ts := [.int (i / j), .int (i % j)]) (vs := [.int (i / j), .int (i % j)]) ?_
  rw [RepL_cons, RepL_cons, RepL_nil, rep_fl, rep_fl, emp_star, emp_star]
  exact w2.eq (by rw [emp_star])
theorem cr_divmod : CallR X (.builtin "divmod") (fun xs H Q => ∃ x y, xs = [x, y] ∧ ∃ i j, x = .int i ∧ y = .int j ∧ CDiv i j ∧ ∀ p, H p = none → Q (.ref p) (upd H p (.tup [.int (i / j), .int (i % j)]))) := callR_imp call_divmod fun xs H Q ⟨x, y, e, i, j, e1, e2, q⟩ => ⟨i, j, by rw [e, e1, e2], q⟩
/-- list of a list -/
def fList (t : T) (k : T → Prop) : Prop := itL t fun ts => k (.lst ts)
theorem rc_list : RC K (fc1 fList) (fun xs H Q => ∃ x, xs = [x] ∧ ∃ p ys, x = .ref p ∧ SqL K H p ys ∧ ∀ l, H l = none → Q (.ref l) (upd H l (.lst ys))) := rc1 fun t x H A k Q w h ok => by
  obtain ⟨p, ts, vs, Sp, rfl, h2, l1, s1, w1⟩ := wd_unseq h w
  refine ⟨p, vs, rfl, s1 H _ w1, fun l hl => ok _ _ _ h2 ?_⟩
  exact wd_lst (w1.drop.alloc hl fun xs z => by cases z)
theorem cr_list : CallR X (.type "list") (fun xs H Q => ∃ x, xs = [x] ∧ ∃ p ys, x = .ref p ∧ SqL X.K H p ys ∧ ∀ l, H l = none → Q (.ref l) (upd H l (.lst ys))) := callR_imp call_list_of fun xs H Q ⟨x, e, p, ys, ex, s, q⟩ => ⟨p, ys, by rw [e, ex], .inl s, q⟩
end
end WC

/-! WLl: isinstance, join, append and other methods. -/
namespace WC
open PySem PySem.Spec PyProof.Rows L2
inductive Ty where
  | bool | int | str | list | tuple
def Ty.nm : Ty → String
  | .bool => "bool" | .int => "int" | .str => "str" | .list => "list" | .tuple => "tuple"
def tyT : T → Option String
  | .d (.fl .non) => some "NoneType"
  | .d (.fl (.bl _)) => some "bool"
  | .d (.fl (.int _)) => some "int"
  | .d (.fl (.str _)) => some "str"
  | .d (.lst _) => some "list"
  | .lst _ => some "list"
  | .d (.tup _) => some "tuple"
  | .tup _ => some "tuple"
  | _ => none
def isTyS (m : String) (n : Ty) : Bool := m == n.nm || (m == "bool" && n.nm == "int")
theorem kit_table : ∀ m ∈ ["NoneType", "bool", "int", "str", "list", "tuple"], ∀ n ∈ ["bool", "int", "str", "list", "tuple"], kitB m n = some (m == n || (m == "bool" && n == "int")) := by decide +kernel
/-- whether it is one of them -/
def isTy : Ty → T → Bool
  | .bool, .d (.fl (.bl _)) => true
  | .int, .d (.fl (.bl _)) => true
  | .int, .d (.fl (.int _)) => true
  | .str, .d (.fl (.str _)) => true
  | .list, .d (.lst _) => true
  | .list, .lst _ => true
  | .tuple, .d (.tup _) => true
  | .tuple, .tup _ => true
  | _, _ => false
section
variable {X : Cx} {K : PySem.W.Frag} {W : WX} {a b c : Expr} {es : List Expr} {α β : SE} {γ : SA} {pos p1 apos : Pos}
theorem tyX_of {H : Hp} {t : T} {v : V} {A : Asn} {m : String} (h : tyT t = some m) (w : Wd H (Rep K t v • A)) : TyX K H v (.type m) := by
  have hd := wd_den w
  have L : ∀ {ds : List D}, Den K H (.lst ds) v → TyX K H v (.type "list") := fun {ds} hd => by
    simp only [Den] at hd
    obtain ⟨p, vs, rfl, hs, _⟩ := hd
    rcases hs with (hs | ⟨o, hs⟩) | ⟨o, its, n, hk, hc, _⟩
    · exact .base (.lst hs)
    · exact .base (.frz hs)
    · exact .kList hk hc
  have U : ∀ {ds : List D}, Den K H (.tup ds) v → TyX K H v (.type "tuple") := fun {ds} hd => by
    simp only [Den] at hd
    obtain ⟨p, vs, rfl, hs, _⟩ := hd
    rcases hs with hs | ((hs | ⟨o, hs⟩) | ⟨o, its, n, hk, hc, _⟩)
    · exact .base (.tup hs)
    · cases hs
    · cases hs
    · exact .kTuple hk hc
  unfold tyT at h
  split at h
  · cases h
    simp only [frz, Den] at hd
    subst hd
    exact .base .non
  · cases h
    simp only [frz, Den] at hd
    subst hd
    exact .base (.bl _)
  · cases h
    simp only [frz, Den] at hd
    subst hd
    exact .base (.int _)
  · cases h
    simp only [frz, Den] at hd
    subst hd
    exact .base (.str _)
  · cases h
    simp only [frz] at hd
    exact L hd
  · cases h
    simp only [frz] at hd
    exact L hd
  · cases h
    simp only [frz] at hd
    exact U hd
  · cases h
    simp only [frz] at hd
    exact U hd
  · cases h
theorem tyT_mem {t : T} {m : String} (h : tyT t = some m) : m ∈ ["NoneType", "bool", "int", "str", "list", "tuple"] := by
  unfold tyT at h
  split at h <;> first | (cases h; decide) | cases h
theorem isTy_eq {t : T} {m : String} (h : tyT t = some m) (n : Ty) : (m == n.nm || (m == "bool" && n.nm == "int")) = isTy n t := by
  unfold tyT at h
  split at h <;> first
    | (cases h; cases n <;> rfl)
    | cases h
theorem ty_mem (n : Ty) : n.nm ∈ ["bool", "int", "str", "list", "tuple"] := by cases n <;> decide
/-- isinstance(x, T) of a built-in class -/
def fIsTy (n : Ty) (t : T) (k : T → Prop) : Prop := ifT (tyT t).isSome (k (.bl (isTy n t)))
def sIsTy (n : Ty) (α : SE) : SE := fun env k e => α env (fun t env1 => fIsTy n t fun u => k u env1) e
theorem d_isTy {n : Ty} {x : Str} (hI : Gl X "isinstance") (mI : X.mg "isinstance" = none) (ha : PD X W a α) (hg : Gl X x) (hm : X.mg x = none) (hv : bootBuiltins x = some (.type n.nm)) (hbI : bootBuiltins "isinstance" = some (.builtin "isinstance") := by decide +kernel) (hn : x ≠ "__name__" := by decide) (hdb : (x == ("__debug__" : Str)) = false := by decide)
    (hs1 : starEach [a, .Name x p1] X.env = (false, eval a X.env) :: starEach [.Name x p1] X.env := by rfl) (hs2 : starEach [.Name x p1] X.env = (false, eval (.Name x p1) X.env) :: starEach [] X.env := by rfl) (hpl : (backTo pos (starEach [.Name x p1] X.env)).any (·.1) = false := by rfl) :
    PD X W (.Call (.Name "isinstance" apos) [a, .Name x p1] [] pos) (sIsTy n α) := by
  refine pe_weak (pe_callB call_isi hI mI hbI (pa_cons ha (pa_cons (pe_bltn (v := .ty n.nm) hg hm hv rfl hn hdb) pa_nil hs2) hs1) (by decide) (by decide) hs1 hpl) fun σ H Q ⟨env, R, k, e, w, h, ok, er⟩ => ?_
  refine ⟨env, R, _, e, w, h, fun t env1 v H1 k1 w1 => ?_, er⟩
  obtain ⟨hs, k2⟩ := ifT_get k1
  obtain ⟨m, hm2⟩ := Option.isSome_iff_exists.mp hs
  refine ⟨v, .ty n.nm, .type m, .type n.nm, isTy n t, rfl, .ty _, tyX_of hm2 w1, kit_ty ?_, ok _ _ _ _ k2 (wd_ofl w1.drop)⟩
  rw [kit_table m (tyT_mem hm2) n.nm (ty_mem n), isTy_eq hm2]
/-! texts of a list -/
def strsT : List T → Option (List Str)
  | [] => some []
  | .d (.fl (.str z)) :: ts => (strsT ts).map (z :: ·)
  | _ :: _ => none
theorem strsT_map : ∀ xs : List Str, strsT (xs.map T.str) = some xs
  | [] => rfl
  | x :: xs => by simp only [List.map_cons, strsT, strsT_map xs, Option.map_some]
theorem strsT_eq : ∀ {ts : List T} {xs : List Str}, strsT ts = some xs → ts = xs.map T.str
  | [], xs, h => by
    simp only [strsT, Option.some.injEq] at h
    subst h
    rfl
  | t :: ts, xs, h => by
    unfold strsT at h
    split at h
    · rename_i e
      cases e
    · rename_i z ts' e
      cases e
      simp only [Option.map_eq_some_iff] at h
      obtain ⟨ys, h1, rfl⟩ := h
      rw [strsT_eq h1]
      rfl
    · cases h
theorem RepL_fls {H : Hp} {A : Asn} : ∀ {ys vs : List V}, Wd H (RepL K (ys.map T.fl) vs • A) → vs = ys
  | [], [], _ => rfl
  | [], _ :: _, w => by have := w.lenL; simp at this
  | _ :: _, [], w => by have := w.lenL; simp at this
  | y :: ys, v :: vs, w => by
    rw [List.map_cons, RepL_cons] at w
    have w1 := w.eq (star_assoc _ _ _)
    have e1 := wd_fl w1
    have e2 := RepL_fls w1.drop
    rw [e1, e2]
def asSs (ts : List T) (k : List Str → Prop) : Prop := match strsT ts with
  | some xs => k xs
  | none => False
theorem asSs_get {ts : List T} {k : List Str → Prop} (h : asSs ts k) : ∃ xs, ts = xs.map T.str ∧ k xs := by
  unfold asSs at h
  split at h
  · rename_i xs e
    exact ⟨xs, strsT_eq e, h⟩
  · exact h.elim
/-- a.join(b) -/
def sJoin (α β : SE) : SE := fun env k e => α env (fun t env1 => asS t fun a => β env1 (fun u env2 => itL u fun ts => asSs ts fun ys => (ys.map (·.length)).sum + ys.length * a.length ≤ 16777216 ∧ k (.str (Txt.join a ys)) env2) e) e
theorem d_join (ho : PD X W a α) (he : PD X W b β) (hs : starEach [b] X.env = [(false, eval b X.env)] := by rfl) (hbase : attributeBase a "join" X.env (eval a X.env) = eval a X.env := by rfl) (hline : (apos.endLine == pos.line) = true := by rfl) :
    PD X W (.Call (.Attribute a "join" apos) [b] [] pos) (sJoin α β) :=
  pe_weak (pe_join ho he hs hbase hline) fun σ H Q ⟨env, R, k, e, w, h, ok, er⟩ => ⟨env, R, _, e, w, h, fun t env1 v H1 k1 w1 => by
    obtain ⟨z, rfl, k2⟩ := asS_get k1
    obtain rfl := wd_fl w1
    refine ⟨⟨z, rfl⟩, env1, R, _, e, w1.drop, k2, fun u env2 y H2 k3 w2 => ?_, er⟩
    obtain ⟨p, ts, vs, Sp, rfl, k4, l1, s1, w3⟩ := wd_unseq k3 w2
    obtain ⟨ys, rfl, hl, k5⟩ := asSs_get k4
    have w4 : Wd H2 (RepL X.K ((ys.map V.str).map T.fl) vs • (Sp • EnvA X.K env2 σ • R)) := by
      rw [List.map_map]
      exact w3.eq (by
        show Sp • RepL X.K (ys.map T.str) vs • EnvA X.K env2 σ • R = RepL X.K (ys.map T.str) vs • (Sp • EnvA X.K env2 σ • R)
        ac_rfl)
    have e2 := RepL_fls w4
    exact ⟨z, p, ys, rfl, rfl, .inl (by rw [← e2]; exact s1 H2 _ w3), hl, ok _ _ _ _ k5 (wd_ofl w3.drop.drop)⟩, er⟩
/-! ### methods of a list in a slot -/
/-- what a method does to the items, with its value -/
abbrev FM := List T → List T → (T → List T → Prop) → Prop
def sMeth (i : Nat) (f : FM) (γ : SA) : SE := fun env k e => asL (slot env i) fun _ => γ env (fun as env1 => allV as fun us => asL (slot env1 i) fun ts => f ts us fun t ts' => force (env1.set i (.lst ts')) (k t)) e
def RM (K : PySem.W.Frag) (f : FM) (r : V → List V → Hp → VK → Prop) : Prop := ∀ (ts us : List T) (q : Addr) (vs ws : List V) (H : Hp) (A : Asn) (k : T → List T → Prop) (Q : VK), Wd H (pt q (.lst vs) • RepL K ts vs • RepL K us ws • A) → f ts us k →
  (∀ t ts' v vs' H', k t ts' → Wd H' (pt q (.lst vs') • RepL K ts' vs' • Rep K t v • A) → Q v H') → r (.ref q) ws H Q
theorem meth_of {i : Nat} {f : FM} {r : V → List V → Hp → VK → Prop} {ta : TA} (hr : RM X.K f r) {σ : L2.St} {H : Hp} {Q : VK} (hta : ∀ σ H Q, tA X.K W γ σ H Q → ta σ H Q) (h : tE X.K W (sMeth i f γ) σ H Q) : tBM X.K "list" r (tVar i) ta σ H Q := by
  obtain ⟨env, R, k, e, w, h, ok, er⟩ := h
  obtain ⟨ts0, e0, h⟩ := asL_get h
  obtain ⟨q, vs, hq, w1, back⟩ := wd_slotL w e0
  refine ⟨.ref q, hq, .inl ⟨rfl, vs, SqL.of w1.get⟩, hta _ _ _ ⟨env, R, _, e, w, h, fun as env1 ws H1 k1 w2 => ?_, er⟩⟩
  obtain ⟨us, k2, e2⟩ := allV_get (σ := σ) (X := X) k1
  obtain ⟨ts, e3, k3⟩ := asL_get k2
  rw [e2] at w2
  have w3 : Wd H1 (EnvA X.K env1 σ • (RepL X.K us ws • R)) := w2.eq (by ac_rfl)
  obtain ⟨q', vs', hq', w4, back'⟩ := wd_slotL w3 e3
  rw [hq] at hq'
  cases hq'
  have hg : slot env1 i ≠ .gone := by rw [e3]; intro z; cases z
  have hs := slot_get hg
  refine hr ts us q vs' ws H1 (EnvA X.K (env1.set i .gone) σ • R) _ Q (w4.eq (by ac_rfl)) k3 fun t ts' v vs2 H2 k4 w5 => ok _ _ _ _ (force_mp k4) ?_
  rw [EnvA_back hq (List.getElem?_eq_some_iff.mp hs).1]
  have w6 := wd_lst (K := X.K) (ts := ts') (vs := vs2) (p := q) (A := Rep X.K t v • EnvA X.K (env1.set i .gone) σ • R) w5
  exact w6.eq (by ac_rfl)
theorem d_meth {i : Nat} {f : FM} {r : V → List V → Hp → VK → Prop} {id : String} {name : Str} (hr : RM X.K f r) (pa : PlainAttrs "list") (slt : Slot "list" name id) (hty : typeOf (.builtin id) = pure (.type "method_descriptor")) (hm : MtR X id r) (ho : PE X a (tVar i)) (ha : PDA X W (b :: es) γ)
    (hbase : attributeBase a name X.env (eval a X.env) = eval a X.env := by rfl)
    (hfew : ((backTo pos (starEach (b :: es) X.env)).all (fun x => !x.1) && (backToKw pos (keywordEach [] X.env)).all (fun x => x.1.isSome)
      && decide ((b :: es).length + ([] : List Keyword).length + (if ([] : List Keyword).isEmpty then 0 else 1) < 30)) = true := by rfl)
    (hline : (apos.endLine == pos.line) = true := by rfl) (hs : starEach (b :: es) X.env = (false, eval b X.env) :: starEach es X.env := by rfl) (hplain : (backTo pos (starEach es X.env)).any (·.1) = false := by rfl) :
    PD X W (.Call (.Attribute a name apos) (b :: es) [] pos) (sMeth i f γ) :=
  pe_weak (pe_bm pa slt hty hm ho ha hbase hfew hline hs hplain) fun _ _ _ h => meth_of hr (fun _ _ _ z => z) h
theorem d_meth0 {i : Nat} {f : FM} {r : V → List V → Hp → VK → Prop} {id : String} {name : Str} (hr : RM X.K f r) (pa : PlainAttrs "list") (slt : Slot "list" name id) (hty : typeOf (.builtin id) = pure (.type "method_descriptor")) (hm : MtR X id r) (ho : PE X a (tVar i))
    (hbase : attributeBase a name X.env (eval a X.env) = eval a X.env := by rfl) (hline : (apos.endLine == pos.line) = true := by rfl) :
    PD X W (.Call (.Attribute a name apos) [] [] pos) (sMeth i f sNil) :=
  pe_weak (pe_bm0 pa slt hty hm ho hbase hline) fun σ H Q h => by
    have h2 := meth_of (ta := tNil) hr (fun σ H Q ⟨env, R, k, e, w, h, ok, er⟩ => ok [] env [] H h (by
      show Wd H (emp • EnvA X.K env σ • R)
      rw [emp_star]
      exact w)) h
    exact h2
def fmAppend : FM := fun ts us k => match us with
  | [t] => ts.length < 1000000 ∧ k .non (ts ++ [t])
  | _ => False
theorem rm_append : RM K fmAppend rAppend := fun ts us q vs ws H A k Q w h ok => by
  unfold fmAppend at h
  split at h
  · rename_i t
    have w0 : Wd H (RepL K [t] ws • (pt q (.lst vs) • RepL K ts vs • A)) := w.eq (by ac_rfl)
    have hl := w0.lenL
    match ws, hl with
    | [v], _ =>
      have l1 : ts.length = vs.length := w.drop.lenL
      refine ⟨q, vs, v, rfl, rfl, w.get, Nat.lt_of_lt_of_le (show vs.length < 1000000 by omega) (by decide), ok _ _ _ (vs ++ [v]) _ h.2 ?_⟩
      have w1 := w.write (o' := .lst (vs ++ [v])) fun xs z => by cases z
      rw [RepL_app l1, rep_fl, emp_star]
      exact w1.eq (by ac_rfl)
  · exact h.elim
end
end WC
namespace WC
open PySem PySem.Spec PyProof.Rows L2
section
variable {X : Cx} {W : WX} {a : Expr} {α : SE}
/-- from now on stable -/
def sFrz (α : SE) : SE := fun env k e => α env (fun t env' => k (.d (frz t)) env') e
theorem d_frz (h : PD X W a α) : PD X W a (sFrz α) := pe_weak h fun σ H Q ⟨env, R, k, e, w, h, ok, er⟩ => ⟨env, R, _, e, w, h, fun t env1 v H1 k1 w1 => ok _ _ _ _ k1 (wd_frz w1), er⟩
end
end WC

/-! WLm: loops by what holds between turns; the words that unfold worths. -/
namespace WC
open PySem PySem.Spec PyProof.Rows L2
theorem own_1 {s : Str} {i : Nat} : ∀ j, (fun j => j == i) j = true → j ∈ [(s, i)].map (·.2) := fun j h => by simpa using h
theorem own_2 {s s' : Str} {i i' : Nat} : ∀ j, (fun j => j == i || j == i') j = true → j ∈ [(s, i), (s', i')].map (·.2) := fun j h => by simpa using h
theorem own_3 {s s' s'' : Str} {i i' i'' : Nat} : ∀ j, (fun j => j == i || j == i' || j == i'') j = true → j ∈ [(s, i), (s', i'), (s'', i'')].map (·.2) := fun j h => by simpa [or_assoc] using h
theorem own_4 {s s' s'' s3 : Str} {i i' i'' i3 : Nat} : ∀ j, (fun j => j == i || j == i' || j == i'' || j == i3) j = true → j ∈ [(s, i), (s', i'), (s'', i''), (s3, i3)].map (·.2) := fun j h => by simpa [or_assoc] using h
/-- a for by what holds between its turns -/
theorem forL_inv {g : STG} {δ : SS} {E : EndT} (Inv : Nat → Nv → Prop) : ∀ {ts : List T} {env : Nv} (n : Nat), Inv n env →
    (∀ i t env (N : Nv → Prop), ts[i]? = some t → Inv (n + i) env → (∀ env', Inv (n + i + 1) env' → N env') → g t env fun env' => δ ⟨N, E.rt, E.nx, N, E.ex⟩ env') → (∀ env, Inv (n + ts.length) env → E.nx env) → forL g δ E ts env
  | [], env, n, h0, hs, hd => hd env h0
  | t :: ts, env, n, h0, hs, hd => by
    refine hs 0 t env _ rfl h0 fun env' h1 => ?_
    refine forL_inv Inv (ts := ts) (n + 1) h1 (fun i u env2 N hu hi hN => ?_) fun env2 h2 => hd env2 ?_
    · refine hs (i + 1) u env2 N (by simpa using hu) ?_ fun env3 h3 => hN env3 ?_
      · rw [show n + (i + 1) = n + 1 + i by omega]
        exact hi
      · rw [show n + 1 + i + 1 = n + (i + 1) + 1 by omega]
        exact h3
    · rw [List.length_cons, show n + (ts.length + 1) = n + 1 + ts.length by omega]
      exact h2
theorem forL_of {g : STG} {δ : SS} {E : EndT} (Inv : Nat → Nv → Prop) {ts : List T} {env : Nv} (h0 : Inv 0 env)
    (hs : ∀ i t env (N : Nv → Prop), ts[i]? = some t → Inv i env → (∀ env', Inv (i + 1) env' → N env') → g t env fun env' => δ ⟨N, E.rt, E.nx, N, E.ex⟩ env') (hd : ∀ env, Inv ts.length env → E.nx env) : forK g δ E ts env := forK_eq.mpr <|
  forL_inv Inv 0 h0 (fun i t env N a b c => hs i t env N a (by rw [Nat.zero_add] at b; exact b) (by rw [Nat.zero_add] at c; exact c)) (by rw [Nat.zero_add]; exact hd)
/-- a comprehension by what holds between its turns -/
theorem lcL_inv {vs : List Nat} {g : STG} {p : SB} {α : SE} {k : List T → Nv → Prop} (Inv : Nat → List T → Nv → Prop) : ∀ {ts acc : List T} {env : Nv} (n : Nat), Inv n acc env →
    (∀ i t acc env (N : List T → Nv → Prop), ts[i]? = some t → Inv (n + i) acc env → (∀ acc' env', Inv (n + i + 1) acc' env' → N acc' env') →
      g t env fun env1 => p env1 (fun b env2 => wh b (α env2 (fun y env3 => N (acc ++ [y]) (wipeT env3 vs)) (fun _ _ => False)) (N acc (wipeT env2 vs))) (fun _ _ => False)) → (∀ acc env, Inv (n + ts.length) acc env → k acc env) → lcL vs g p α k ts acc env
  | [], acc, env, n, h0, hs, hd => hd acc env h0
  | t :: ts, acc, env, n, h0, hs, hd => by
    refine hs 0 t acc env (fun acc' env' => lcL vs g p α k ts acc' env') rfl h0 fun acc' env' h1 => ?_
    refine lcL_inv Inv (ts := ts) (n + 1) h1 (fun i u acc2 env2 N hu hi hN => ?_) fun acc2 env2 h2 => hd acc2 env2 ?_
    · refine hs (i + 1) u acc2 env2 N (by simpa using hu) ?_ fun acc3 env3 h3 => hN acc3 env3 ?_
      · rw [show n + (i + 1) = n + 1 + i by omega]
        exact hi
      · rw [show n + 1 + i + 1 = n + (i + 1) + 1 by omega]
        exact h3
    · rw [List.length_cons, show n + (ts.length + 1) = n + 1 + ts.length by omega]
      exact h2
theorem lcL_of {vs : List Nat} {g : STG} {p : SB} {α : SE} {k : List T → Nv → Prop} (Inv : Nat → List T → Nv → Prop) {ts : List T} {env : Nv} (h0 : Inv 0 [] env)
    (hs : ∀ i t acc env (N : List T → Nv → Prop), ts[i]? = some t → Inv i acc env → (∀ acc' env', Inv (i + 1) acc' env' → N acc' env') →
      g t env fun env1 => p env1 (fun b env2 => wh b (α env2 (fun y env3 => N (acc ++ [y]) (wipeT env3 vs)) (fun _ _ => False)) (N acc (wipeT env2 vs))) (fun _ _ => False)) (hd : ∀ acc env, Inv ts.length acc env → k acc env) : lcK vs g p α k ts [] env := lcK_eq.mpr <|
  lcL_inv Inv 0 h0 (fun i t acc env N a b c => hs i t acc env N a (by rw [Nat.zero_add] at b; exact b) (by rw [Nat.zero_add] at c; exact c)) (by rw [Nat.zero_add]; exact hd)
end WC
namespace WC
open PySem PySem.Spec PyProof.Rows L2
theorem atI_0 {α : Type} {x : α} {xs : List α} : atI (x :: xs) 0 = some x := atI_nat (j := 0) rfl
theorem atI_1 {α : Type} {x y : α} {xs : List α} : atI (x :: y :: xs) 1 = some y := atI_nat (j := 1) rfl
theorem atI_2 {α : Type} {x y z : α} {xs : List α} : atI (x :: y :: z :: xs) 2 = some z := atI_nat (j := 2) rfl
theorem atI_3 {α : Type} {x y z w : α} {xs : List α} : atI (x :: y :: z :: w :: xs) 3 = some w := atI_nat (j := 3) rfl
theorem ixN_3_0 : ixN 3 0 = some 0 := rfl
theorem ixN_3_1 : ixN 3 1 = some 1 := rfl
theorem ixN_3_2 : ixN 3 2 = some 2 := rfl
theorem cmul_r {i j : Int} (h1 : 0 ≤ j) (h2 : j < 18446744073709551616) : CMul i j := .inr ⟨Int.lt_of_lt_of_le (by decide) h1, h2⟩
theorem cmul_l {i j : Int} (h1 : 0 ≤ i) (h2 : i < 18446744073709551616) : CMul i j := .inl ⟨Int.lt_of_lt_of_le (by decide) h1, h2⟩
theorem nn_sq {c : Int} (h : 0 ≤ c) : 0 ≤ c * c := Int.mul_nonneg h h
theorem sq_le {c m : Int} (h : 0 ≤ c) (h2 : c ≤ m) : c * c ≤ m * m := Int.mul_le_mul h2 h2 h (Int.le_trans h h2)
end WC

namespace WC
open PySem PySem.Spec PyProof.Rows L2
theorem wh_of {b : Bool} {A B : Prop} (h1 : b = true → A) (h2 : b = false → B) : wh b A B := by
  cases b with
  | true => exact h1 rfl
  | false => exact h2 rfl
theorem wh_y {b : Bool} {A B : Prop} (h : b = true) (a : A) : wh b A B := by
  rw [h]
  exact a
theorem wh_n {b : Bool} {A B : Prop} (h : b = false) (a : B) : wh b A B := by
  rw [h]
  exact a
theorem wh_d {c : Prop} [Decidable c] {A B : Prop} (h1 : c → A) (h2 : ¬ c → B) : wh (decide c) A B := wh_of (fun h => h1 (of_decide_eq_true h)) fun h => h2 (of_decide_eq_false h)
/-- != -/
theorem wh_nd {c : Prop} [Decidable c] {A B : Prop} (h1 : ¬ c → A) (h2 : c → B) : wh (!decide c) A B := wh_of (fun h => h1 (by simpa using h)) fun h => h2 (by simpa using h)
theorem asN_of {o : Option Nat} {k : Nat → Prop} {i : Nat} (e : o = some i) (h : k i) : asN o k := by
  rw [e]
  exact h
theorem asO_at {α : Type} {xs : List α} {i : Int} {n : Nat} {k : α → Prop} {x : α} (h : i = n) (e : xs[n]? = some x) (hk : k x) : asO (atI xs i) k := by
  subst h
  exact asO_of (atI_nat e) hk
theorem at_map {α β : Type} {f : α → β} {xs : List α} {i : Int} (h0 : 0 ≤ i) (h1 : i < ((xs.map f).length : Nat)) : ∃ c, xs[i.toNat]? = some c ∧ atI (xs.map f) i = some (f c) := by
  rw [List.length_map] at h1
  have h2 : i.toNat < xs.length := by omega
  refine ⟨xs[i.toNat], List.getElem?_eq_getElem h2, ?_⟩
  have h3 : (xs.map f)[i.toNat]? = some (f xs[i.toNat]) := by rw [List.getElem?_map, List.getElem?_eq_getElem h2]; rfl
  have h4 := atI_nat h3
  rwa [Int.toNat_of_nonneg h0] at h4
theorem abs_nn (i : Int) : 0 ≤ (if i < 0 then -i else i) := by
  split <;> omega
theorem b01_nn (b : Bool) : 0 ≤ (if b = true then (1 : Int) else 0) := by
  cases b <;> decide
theorem b01_lt (b : Bool) : (if b = true then (1 : Int) else 0) < 2 := by
  cases b <;> decide
/-- == of ints -/
theorem wh_ei {i j : Int} {A B : Prop} (h1 : i = j → A) (h2 : ¬ i = j → B) : wh (decide (V.int i = V.int j)) A B := wh_d (fun h => h1 (V.int.inj h)) fun h => h2 fun e => h (by rw [e])
theorem wh_ni {i j : Int} {A B : Prop} (h1 : ¬ i = j → A) (h2 : i = j → B) : wh (!decide (V.int i = V.int j)) A B := wh_nd (fun h => h1 fun e => h (by rw [e])) fun h => h2 (V.int.inj h)
theorem cutG_map {α β : Type} (f : α → β) (xs : List α) (lo hi : Option Int) : cutG (xs.map f) lo hi = (cutG xs lo hi).map f := by
  unfold cutG
  rw [List.length_map, List.map_take, List.map_drop]
theorem cutG_to {α : Type} (xs : List α) (n : Nat) : cutG xs none (some (n : Int)) = xs.take n := by
  unfold cutG
  rw [HT.sIx_none, HT.sIx_nat, List.drop_zero, Nat.sub_zero]
  rw [← List.take_eq_take_min]
theorem cutG_from {α : Type} (xs : List α) (n : Nat) : cutG xs (some (n : Int)) none = xs.drop n := by
  unfold cutG
  rw [HT.sIx_none, HT.sIx_nat]
  rcases Nat.le_total n xs.length with h | h
  · rw [Nat.min_eq_left h, List.take_of_length_le (by rw [List.length_drop]; omega)]
  · rw [Nat.min_eq_right h, Nat.sub_self, List.take_zero, List.drop_eq_nil_of_le h]
theorem cutG_ft {α : Type} (xs : List α) (n m : Nat) : cutG xs (some (n : Int)) (some (m : Int)) = (xs.take m).drop n := by
  unfold cutG
  rw [HT.sIx_nat, HT.sIx_nat, List.drop_take]
  rcases Nat.le_total n xs.length with h | h
  · rw [Nat.min_eq_left h]
    rcases Nat.le_total m xs.length with g | g
    · rw [Nat.min_eq_left g]
    · rw [Nat.min_eq_right g, List.take_of_length_le (by rw [List.length_drop]; omega), List.take_of_length_le (by rw [List.length_drop]; omega)]
  · rw [Nat.min_eq_right h, List.drop_eq_nil_of_le h, List.drop_eq_nil_of_le (Nat.le_refl _), List.take_nil, List.take_nil]
theorem ixN_at {n j : Nat} {i : Int} (hj : j < n) (e : i = j) : ixN n i = some j := by
  rw [e]
  unfold ixN
  rw [if_pos (by omega), if_pos (by omega)]
  rfl
theorem frzL_at {ts : List T} {n : Nat} {t : T} (h : ts[n]? = some t) : (frzL ts)[n]? = some (frz t) := by
  rw [frzL_map, List.getElem?_map, h]
  rfl
theorem frzL_of {α : Type} {f : α → T} {g : α → D} (h : ∀ x, frz (f x) = g x) (xs : List α) : frzL (xs.map f) = xs.map g := by
  rw [frzL_map, List.map_map]
  exact List.map_congr_left fun x _ => h x
/-- the text of one sign -/
abbrev sgn (c : Nat) : Str := ⟨#[c]⟩
theorem sgn_sum : ∀ cs : List Nat, ((cs.map sgn).map (·.length)).sum = cs.length
  | [] => rfl
  | c :: cs => by
    rw [List.map_cons, List.map_cons, List.sum_cons, sgn_sum cs, List.length_cons, Nat.add_comm]
    rfl
theorem tl_joinE : ∀ ys : List (List Nat), TL.joinL [] ys = ys.flatten
  | [] => rfl
  | [p] => by simp [TL.joinL]
  | p :: q :: r => by
    show p ++ ([] ++ TL.joinL [] (q :: r)) = _
    rw [List.nil_append, tl_joinE (q :: r)]
    simp
theorem joinE (ys : List Str) : (Txt.join (Str.ofString "") ys).cps.toList = (ys.map fun y => y.cps.toList).flatten := by
  rw [TL.join_eq]
  exact (TL.tl_join _ ys).trans (tl_joinE _)
theorem sgn_join (cs : List Nat) : (Txt.join (Str.ofString "") (cs.map sgn)).length = cs.length := by
  show Array.size _ = _
  rw [← Array.length_toList, joinE, List.map_map]
  show (cs.map fun c => [c]).flatten.length = _
  induction cs with
  | nil => rfl
  | cons c cs ih => simp [ih]
theorem lets_len : (Str.ofString "abcdefghijklmnopqrstuvwxyz").cps.toList.length = 26 := by decide +kernel
/-- one of two -/
theorem at2 {x y : Int} {r : Int} {m : Nat} (h0 : 0 ≤ r) (h1 : r < 2) (hx : 0 ≤ x) (hx2 : x ≤ m) (hy : 0 ≤ y) (hy2 : y ≤ m) : ∃ n : Nat, atI [T.int x, T.int y] r = some (.int n) ∧ n ≤ m := by
  obtain ⟨p, rfl⟩ := Int.eq_ofNat_of_zero_le hx
  obtain ⟨q, rfl⟩ := Int.eq_ofNat_of_zero_le hy
  rcases (show r = 0 ∨ r = 1 by omega) with h | h
  · subst h
    exact ⟨p, atI_0, by omega⟩
  · subst h
    exact ⟨q, atI_1, by omega⟩
theorem app_len (a b : Str) : (a ++ b).length = a.length + b.length := Array.size_append ..
theorem cutS_le (z : Str) (lo hi : Option Int) : (cutS z lo hi).length ≤ z.length := cutS_length z lo hi
theorem forK_cons {g : STG} {δ : SS} {E : EndT} {t : T} {ts : List T} {env : Nv} (h : g t env fun env' => δ ⟨forK g δ E ts, E.rt, E.nx, forK g δ E ts, E.ex⟩ env') : forK g δ E (t :: ts) env := by
  rw [forK_eq]
  show g t env fun env' => δ ⟨forL g δ E ts, E.rt, E.nx, forL g δ E ts, E.ex⟩ env'
  have e : forK g δ E ts = forL g δ E ts := funext fun _ => forK_eq
  rw [← e]
  exact h
theorem forK_nil {g : STG} {δ : SS} {E : EndT} {env : Nv} (h : E.nx env) : forK g δ E [] env := by
  rw [forK_eq]
  exact h
theorem line2 {a b m n : Nat} (ha : a ≤ m) (hb : b ≤ n) (h : m + n ≤ 1000000) : a + b ≤ sizeLine := Nat.le_trans (Nat.le_trans (Nat.add_le_add ha hb) h) (by decide)
theorem len_app {a b : Str} {m n : Nat} (ha : a.length ≤ m) (hb : b.length ≤ n) : (a ++ b).length ≤ m + n := by
  rw [app_len]
  exact Nat.add_le_add ha hb
theorem sgn_lt {c d : Nat} : ([c] < [d]) ↔ c < d := by
  constructor
  · intro h
    cases h with
    | rel h => exact h
    | cons h => cases h
  · intro h
    exact .rel h
theorem den_ints {K : PySem.W.Frag} {G : Hp} : ∀ ns : List Int, DenL K G (ns.map D.int) (ns.map V.int)
  | [] => by simp only [List.map_nil, DenL]
  | n :: ns => by
    simp only [List.map_cons, DenL]
    exact ⟨by simp only [Den], den_ints ns⟩
/-- the law's own call -/
theorem start_of {K : PySem.W.Frag} {φ : FT} {H : Hp} {a : Addr} {ns : List Int} (hS : SqL K H a (ns.map V.int)) (hφ : φ [.d (.lst (ns.map D.int))] (fun t _ => t = .bl true) fun _ _ => False) :
    spT K 1 φ [.ref a] H (fun v _ => v = .bl true) fun _ _ _ => False := by
  refine ⟨rfl, _, emp, _, _, ?_, hφ, fun t ts' v H' hk w => ?_, fun _ _ _ _ _ h _ => h⟩
  · rw [RepL_cons, RepL_nil, star_emp, star_emp]
    refine ⟨H, Hp0, fun _ _ e => e, fun _ _ e => (by cases e), fun _ => .inr rfl, fun _ _ e => (by cases e), ?_⟩
    refine kn_den.mpr ⟨rfl, ?_⟩
    simp only [Den]
    exact ⟨a, _, rfl, hS, den_ints ns⟩
  · subst hk
    exact wd_fl w
/-- a drawer of numbers -/
abbrev boxT (a b c : Int) : T := .lst [.int a, .int b, .int c]
end WC

namespace WCk
open PySem PySem.Spec PyProof.Rows L2 WC
local macro_rules | `(tactic| walk_at "wp") => `(tactic| conv => whnf)
local macro_rules | `(tactic| walk_at "cnd") => `(tactic| first | (show (0:Int) < _; first | decide | omega) | (apply cmul_l <;> omega) | (apply cmul_r <;> omega) | (exact ⟨by omega, by omega⟩) | omega | decide)
local macro_rules | `(tactic| walk_at "go") => `(tactic| (repeat ((conv => whnf); refine And.intro (by walk_at "cnd") ?_)); conv => whnf)
def topS (i : Nat) : Stmt := PySem.Challenge.pw_wirechannel_k06_longer_words.main.body.getD i (.Pass ⟨0, 0, 0, 0⟩)
abbrev s_is_name : Stmt := topS 2
abbrev s_law_box : Stmt := topS 4
abbrev s_law_take : Stmt := topS 5
abbrev s_law_folded : Stmt := topS 6
abbrev s_law_word : Stmt := topS 7
abbrev s_law : Stmt := topS 8
structure Tx (K : PySem.W.Frag) (mg : Str → Option Value) where
  b_abs : mg "abs" = none
  b_bool : mg "bool" = none
  b_divmod : mg "divmod" = none
  b_enumerate : mg "enumerate" = none
  b_int : mg "int" = none
  b_isinstance : mg "isinstance" = none
  b_len : mg "len" = none
  b_list : mg "list" = none
  b_max : mg "max" = none
  b_range : mg "range" = none
  u_LETTERS : Value
  g_LETTERS : mg "LETTERS" = some u_LETTERS
  r_LETTERS : RelV (.str "abcdefghijklmnopqrstuvwxyz") u_LETTERS
  a_is_name : Addr
  fd_is_name : FuncData
  F_is_name : Fun K "is_name" "is_name" s_is_name a_is_name fd_is_name
  m_is_name : mg "is_name" = some (.ref a_is_name)
  B_is_name : Binds K fd_is_name ["word"] []
  a_law_box : Addr
  fd_law_box : FuncData
  F_law_box : Fun K "_law_box" "_law_box" s_law_box a_law_box fd_law_box
  m_law_box : mg "_law_box" = some (.ref a_law_box)
  B_law_box : Binds K fd_law_box ["script", "k"] []
  a_law_take : Addr
  fd_law_take : FuncData
  F_law_take : Fun K "_law_take" "_law_take" s_law_take a_law_take fd_law_take
  m_law_take : mg "_law_take" = some (.ref a_law_take)
  B_law_take : Binds K fd_law_take ["box", "size"] []
  a_law_folded : Addr
  fd_law_folded : FuncData
  F_law_folded : Fun K "_law_folded" "_law_folded" s_law_folded a_law_folded fd_law_folded
  m_law_folded : mg "_law_folded" = some (.ref a_law_folded)
  B_law_folded : Binds K fd_law_folded ["script", "size"] []
  a_law_word : Addr
  fd_law_word : FuncData
  F_law_word : Fun K "_law_word" "_law_word" s_law_word a_law_word fd_law_word
  m_law_word : mg "_law_word" = some (.ref a_law_word)
  B_law_word : Binds K fd_law_word ["box", "size"] []
  a_law : Addr
  fd_law : FuncData
  F_law : Fun K "law" "law" s_law a_law fd_law
  m_law : mg "law" = some (.ref a_law)
  B_law : Binds K fd_law ["script"] []
abbrev N_is_name : List Str := ["word", "sign"]
theorem sc_is_name : FnScope N_is_name ["word"] (defScope s_is_name) := ⟨rfl, rfl, rfl, by decide +kernel, rfl, by decide +kernel, by decide +kernel⟩
def letterC (c : Nat) : Bool := decide (97 ≤ c ∧ c ≤ 122)
def isNm (z : Str) : Bool := decide (0 < z.length ∧ z.length ≤ 6) && z.cps.toList.all letterC
def phi_is_name : FT := fun ts k _ => ∃ z : Str, ts = [.str z] ∧ z.length ≤ 1000 ∧ k (.bl (isNm z)) [.str z]
theorem mem_letters (c : Nat) : c ∈ (Str.ofString "abcdefghijklmnopqrstuvwxyz").cps.toList ↔ 97 ≤ c ∧ c ≤ 122 := by
  have e : (Str.ofString "abcdefghijklmnopqrstuvwxyz").cps.toList = (List.range 26).map (· + 97) := by decide +kernel
  rw [e]
  simp only [List.mem_map, List.mem_range]
  constructor
  · rintro ⟨a, h, rfl⟩
    omega
  · intro h
    exact ⟨c - 97, by omega, by omega⟩
def sem_is_name : SS :=
    (sSeq (sIfS (sOr (sTest (sBin fEq (sCB (fc1 fLen) (sCons (sVar 0) sNil)) (sC (.int 0)))) (sTest (sBin fGt (sCB (fc1 fLen) (sCons (sVar 0) sNil)) (sC (.int 6))))) (sRet (sC (.bl false))) sSkip)
    (sSeq (sFor (sIS (sVar 0)) (gN 1) (sIfS (sTest (sBin fNiC (sVar 1) (sC (.str "abcdefghijklmnopqrstuvwxyz")))) (sRet (sC (.bl false))) sSkip))
    (sRet (sC (.bl true)))))
abbrev B_is_name : Nat → Bool := (fun j => j == 1)
theorem val_is_name (ts k e) (h : phi_is_name ts k e) : sem_is_name (endP B_is_name ts k fun _ _ => False) (ts ++ [.gone]) := by
  obtain ⟨z, rfl, hz, hk⟩ := h
  have hs : z.length ≤ sizeLine := Nat.le_trans hz (by decide)
  walk_at "wp"
  refine ⟨hs, ?_⟩
  walk_at "wp"
  refine wh_ei (fun h0 => ?_) (fun h0 => ?_)
  · walk_at "wp"
    have e : isNm z = false := by
      unfold isNm
      rw [decide_eq_false (by omega), Bool.false_and]
    rw [e] at hk
    exact hk
  · walk_at "wp"
    refine ⟨hs, ?_⟩
    walk_at "wp"
    refine wh_d (fun h6 => ?_) (fun h6 => ?_)
    · walk_at "wp"
      have e : isNm z = false := by
        unfold isNm
        rw [decide_eq_false (by omega), Bool.false_and]
      rw [e] at hk
      exact hk
    · walk_at "wp"
      refine forL_of (fun i env => ∃ x, env = [.str z, x] ∧ (z.cps.toList.take i).all letterC = true) ⟨.gone, rfl, by simp⟩ ?_ ?_
      · rintro i t env N ht ⟨x, rfl, ha⟩ hN
        unfold strT at ht
        rw [List.getElem?_map] at ht
        obtain ⟨c, hc, rfl⟩ := Option.map_eq_some_iff.mp ht
        walk_at "wp"
        refine wh_nd (fun hl => ?_) (fun hl => ?_)
        · walk_at "wp"
          rw [mem_letters] at hl
          have e : isNm z = false := by
            unfold isNm
            rw [Bool.and_eq_false_iff]
            right
            rw [List.all_eq_false]
            exact ⟨c, List.mem_of_getElem? hc, by simp [letterC, hl]⟩
          rw [e] at hk
          exact hk
        · walk_at "wp"
          rw [mem_letters] at hl
          refine hN _ ⟨_, rfl, ?_⟩
          rw [List.take_add_one, hc, List.all_append, ha]
          simp [letterC, hl]
      · rintro env ⟨x, rfl, ha⟩
        walk_at "wp"
        have e : isNm z = true := by
          unfold isNm
          unfold strT at ha
          rw [List.length_map, List.take_length] at ha
          rw [ha, decide_eq_true (by omega), Bool.and_self]
        rw [e] at hk
        exact hk
theorem ok_is_name {P : Program} {w : World} {K : PySem.W.Frag} {mg : Str → Option Value} {base : Heap} (T : Tx K mg) : FnOk P w K mg base CX0 1 T.a_is_name T.fd_is_name ["word"] (spT K 1 phi_is_name) :=
  def_ok B_is_name T.F_is_name sc_is_name sem_is_name (fun cdv A outer s H E hr =>
      (d_seq (d_ifS (d_w (d_or (d_tcmp op_eq rb_eq (d_callB cr_len rc_len (by rfl) T.b_len (by decide +kernel) (d_cons (d_var (i := 0) (pv 0)) d_nil)) d_int (nomark _)) (d_or1 (d_tcmp op_gtA rb_cmp (d_callB cr_len rc_len (by rfl) T.b_len (by decide +kernel) (d_cons (d_var (i := 0) (pv 0)) d_nil)) d_int (nomark _))))) (d_last (d_ret d_bl)) d_skip)
      (d_seq (d_for PassesOwn.never rfl (d_iS (d_var (i := 0) (pv 0))) (d_gN (i := 1) (by rfl) (pg_name (i := 1) sc_is_name.nd rfl (by first | exact Or.inl rfl | exact Or.inr rfl))) (d_last (d_ifS (d_tcmp op_notIn_sign rb_niC (d_var (i := 1) (pv 1)) (d_c (pe_glob (by rfl) T.g_LETTERS T.r_LETTERS)) (by rfl)) (d_last (d_ret d_bl)) d_skip)))
      (d_last (d_ret d_bl))))) (fun ts k e hl h => val_is_name ts k e h)
abbrev N_law_box : List Str := ["script", "k", "cell"]
theorem sc_law_box : FnScope N_law_box ["script", "k"] (defScope s_law_box) := ⟨rfl, rfl, rfl, by decide +kernel, rfl, by decide +kernel, by decide +kernel⟩
def phi_law_box : FT := fun ts k _ => ∃ (xs : List Int) (i : Int), ts = [.d (.lst (xs.map D.int)), .int i] ∧ 0 ≤ i ∧ i ≤ 63 ∧
  ∀ a b, 0 ≤ a → 0 ≤ b → b < 2147483647 → k (boxT a b 0) [.d (.lst (xs.map D.int)), .int i]
def sem_law_box : SS :=
    (sSeq (sAsg (sFrz (sIf (sTest (sBin fLt (sVar 1) (sCB (fc1 fLen) (sCons (sVar 0) sNil)))) (sBin fIx (sVar 0) (sVar 1)) (sC (.int 0)))) (gN 2))
    (sRet (sLst (sCons (sBin fMul (sCB (fc1 fAbs) (sCons (sVar 2) sNil)) (sCB (fc1 fInt) (sCons (sBin fGe (sCB (fc1 fAbs) (sCons (sVar 2) sNil)) (sBin fPow (sC (.int 10)) (sC (.int 18)))) sNil))) (sCons (sBin fMod (sBin fMul (sBin fAdd (sBin fAdd (sBin fMod (sVar 2) (sC (.int 2147483629))) (sBin fMul (sC (.int 15485863)) (sVar 1))) (sC (.int 37))) (sC (.int 48271))) (sC (.int 2147483647))) (sCons (sC (.int 0)) sNil))))))
abbrev B_law_box : Nat → Bool := (fun j => j == 2)
theorem val_law_box (ts k e) (h : phi_law_box ts k e) : sem_law_box (endP B_law_box ts k fun _ _ => False) (ts ++ [.gone]) := by
  obtain ⟨xs, i, rfl, hi, hi2, hk⟩ := h
  walk_at "wp"
  refine wh_d (fun h0 => ?_) (fun h0 => ?_)
  · walk_at "wp"
    obtain ⟨c, hc, e⟩ := at_map hi h0
    refine asO_of e ?_
    walk_at "wp"
    refine ⟨⟨by decide, by decide, by decide⟩, ?_⟩
    walk_at "wp"
    refine ⟨cmul_r (b01_nn _) (Int.lt_trans (b01_lt _) (by decide)), ?_⟩
    walk_at "go"
    exact hk _ _ (Int.mul_nonneg (abs_nn _) (b01_nn _)) (by omega) (by omega)
  · walk_at "go"
    exact hk _ _ (Int.mul_nonneg (abs_nn _) (b01_nn _)) (Int.emod_nonneg _ (by decide)) (Int.emod_lt_of_pos _ (by decide))
theorem ok_law_box {P : Program} {w : World} {K : PySem.W.Frag} {mg : Str → Option Value} {base : Heap} (T : Tx K mg) : FnOk P w K mg base CX0 1 T.a_law_box T.fd_law_box ["script", "k"] (spT K 2 phi_law_box) :=
  def_ok B_law_box T.F_law_box sc_law_box sem_law_box (fun cdv A outer s H E hr =>
      (d_seq (d_set (i := 2) (by rfl) sc_law_box.nd rfl (by first | exact Or.inl rfl | exact Or.inr rfl) (d_frz (d_if (d_tcmp op_ltA rb_cmp (d_var (i := 1) (pv 1)) (d_callB cr_len rc_len (by rfl) T.b_len (by decide +kernel) (d_cons (d_var (i := 0) (pv 0)) d_nil)) (nomark _)) (d_ix ix_seq rb_ix (d_var (i := 0) (pv 0)) (d_var (i := 1) (pv 1))) d_int)))
      (d_last (d_ret (d_lst (d_cons (d_bin op_mul rb_I (d_callB cr_abs rc_abs (by rfl) T.b_abs (by decide +kernel) (d_cons (d_var (i := 2) (pv 2)) d_nil)) (d_callTy cr_int rc_int (by rfl) T.b_int (by decide +kernel) (d_cons (d_cmp op_geA rb_cmp (d_callB cr_abs rc_abs (by rfl) T.b_abs (by decide +kernel) (d_cons (d_var (i := 2) (pv 2)) d_nil)) (d_bin op_pow rb_I d_int d_int) (nomark _)) d_nil))) (d_cons (d_bin op_mod rb_I (d_bin op_mul rb_I (d_bin op_addA rb_add (d_bin op_addA rb_add (d_bin op_mod rb_I (d_var (i := 2) (pv 2)) d_int) (d_bin op_mul rb_I d_int (d_var (i := 1) (pv 1)))) d_int) d_int) d_int) (d_cons d_int d_nil)))))))) (fun ts k e hl h => val_law_box ts k e h)
abbrev N_law_take : List Str := ["box", "size", "found", "step", "once", "twice"]
theorem sc_law_take : FnScope N_law_take ["box", "size"] (defScope s_law_take) := ⟨rfl, rfl, rfl, by decide +kernel, rfl, by decide +kernel, by decide +kernel⟩
def phi_law_take : FT := fun ts k _ => ∃ a b c n : Int, ts = [boxT a b c, .int n] ∧ 0 ≤ a ∧ 0 ≤ b ∧ b < 2147483647 ∧ 0 ≤ c ∧ c ≤ 1000000000 ∧ 0 < n ∧ n < 1073741824 ∧
  ∀ r a' c', 0 ≤ r → r < n → 0 ≤ a' → c ≤ c' → c' ≤ c + 1 → k (.int r) [boxT a' b c', .int n]
def sem_law_take : SS :=
    (sSeq (sIfS (sRdB (sTest (sBin fGt (sBin fIx (sVar 0) (sC (.int 0))) (sC (.int 0))))) (sSeq (sAsg (sRd (sCB (fc2 fDivmod) (sCons (sBin fIx (sVar 0) (sC (.int 0))) (sCons (sVar 1) sNil)))) (gT 2 (gCons (gSetL 0 (sC (.int 0))) (gCons (gN 2) gNil))))
    (sRet (sVar 2))) sSkip)
    (sSeq (sAsg (sBin fAdd (sRd (sBin fIx (sVar 0) (sC (.int 2)))) (sC (.int 1))) (gSetL 0 (sC (.int 2))))
    (sSeq (sAsg (sFrz (sBin fAdd (sC (.int 69621)) (sBin fMul (sRd (sBin fIx (sVar 0) (sC (.int 2)))) (sRd (sBin fIx (sVar 0) (sC (.int 2))))))) (gN 3))
    (sSeq (sAsg (sFrz (sBin fMod (sBin fMul (sBin fAdd (sRd (sBin fIx (sVar 0) (sC (.int 1)))) (sBin fMul (sC (.int 39373)) (sRd (sBin fIx (sVar 0) (sC (.int 2)))))) (sVar 3)) (sC (.int 2147483587)))) (gN 4))
    (sSeq (sAsg (sFrz (sBin fMod (sBin fAdd (sBin fMul (sVar 4) (sBin fAdd (sBin fMod (sVar 4) (sC (.int 30011))) (sC (.int 5)))) (sRd (sBin fIx (sVar 0) (sC (.int 2))))) (sC (.int 2147483563)))) (gN 5))
    (sRet (sBin fMod (sBin fDiv (sBin fMod (sBin fMul (sVar 5) (sBin fAdd (sBin fMod (sVar 5) (sC (.int 1013))) (sC (.int 3)))) (sC (.int 998244353))) (sC (.int 16))) (sVar 1))))))))
abbrev B_law_take : Nat → Bool := (fun j => j == 2 || j == 3 || j == 4 || j == 5)
theorem val_law_take (ts k e) (h : phi_law_take ts k e) : sem_law_take (endP B_law_take ts k fun _ _ => False) (ts ++ [.gone, .gone, .gone, .gone]) := by
  obtain ⟨a, b, c, n, rfl, ha, hb, hb2, hc, hc2, hn, hn2, hk⟩ := h
  walk_at "wp"
  refine wh_d (fun h0 => ?_) (fun h0 => ?_)
  · walk_at "go"
    exact hk _ _ _ (Int.emod_nonneg _ (by omega)) (Int.emod_lt_of_pos _ hn) (Int.ediv_nonneg (by omega) (by omega)) (by omega) (by omega)
  · walk_at "go"
    exact hk _ _ _ (Int.emod_nonneg _ (by omega)) (Int.emod_lt_of_pos _ hn) (by omega) (by omega) (by omega)
theorem ok_law_take {P : Program} {w : World} {K : PySem.W.Frag} {mg : Str → Option Value} {base : Heap} (T : Tx K mg) : FnOk P w K mg base CX0 1 T.a_law_take T.fd_law_take ["box", "size"] (spT K 2 phi_law_take) :=
  def_ok B_law_take T.F_law_take sc_law_take sem_law_take (fun cdv A outer s H E hr =>
      (d_seq (d_ifS (d_rdB (d_tcmp op_gtA rb_cmp (d_ix ix_seq rb_ix (d_var (i := 0) (pv 0)) d_int) d_int (nomark _))) (d_seq (d_asg (d_rd (d_callB cr_divmod (rc2 rb_divmod) (by rfl) T.b_divmod (by decide +kernel) (d_cons (d_ix ix_seq rb_ix (d_var (i := 0) (pv 0)) d_int) (d_cons (d_var (i := 1) (pv 1)) d_nil)))) (d_gT rfl (d_gcons (d_gSetL (i := 0) (pg_sub (pv 0) d_int set_list)) (d_gcons (d_gN (i := 2) (by rfl) (pg_name (i := 2) sc_law_take.nd rfl (by first | exact Or.inl rfl | exact Or.inr rfl))) d_gnil))))
      (d_last (d_ret (d_var (i := 2) (pv 2))))) d_skip)
      (d_seq (d_asg (d_bin op_addA rb_add (d_rd (d_ix ix_seq rb_ix (d_var (i := 0) (pv 0)) d_int)) d_int) (d_gSetL (i := 0) (pg_sub (pv 0) d_int set_list)))
      (d_seq (d_set (i := 3) (by rfl) sc_law_take.nd rfl (by first | exact Or.inl rfl | exact Or.inr rfl) (d_frz (d_bin op_addA rb_add d_int (d_bin op_mul rb_I (d_rd (d_ix ix_seq rb_ix (d_var (i := 0) (pv 0)) d_int)) (d_rd (d_ix ix_seq rb_ix (d_var (i := 0) (pv 0)) d_int))))))
      (d_seq (d_set (i := 4) (by rfl) sc_law_take.nd rfl (by first | exact Or.inl rfl | exact Or.inr rfl) (d_frz (d_bin op_mod rb_I (d_bin op_mul rb_I (d_bin op_addA rb_add (d_rd (d_ix ix_seq rb_ix (d_var (i := 0) (pv 0)) d_int)) (d_bin op_mul rb_I d_int (d_rd (d_ix ix_seq rb_ix (d_var (i := 0) (pv 0)) d_int)))) (d_var (i := 3) (pv 3))) d_int)))
      (d_seq (d_set (i := 5) (by rfl) sc_law_take.nd rfl (by first | exact Or.inl rfl | exact Or.inr rfl) (d_frz (d_bin op_mod rb_I (d_bin op_addA rb_add (d_bin op_mul rb_I (d_var (i := 4) (pv 4)) (d_bin op_addA rb_add (d_bin op_mod rb_I (d_var (i := 4) (pv 4)) d_int) d_int)) (d_rd (d_ix ix_seq rb_ix (d_var (i := 0) (pv 0)) d_int))) d_int)))
      (d_last (d_ret (d_bin op_mod rb_I (d_bin op_fdiv rb_I (d_bin op_mod rb_I (d_bin op_mul rb_I (d_var (i := 5) (pv 5)) (d_bin op_addA rb_add (d_bin op_mod rb_I (d_var (i := 5) (pv 5)) d_int) d_int)) d_int) d_int) (d_var (i := 1) (pv 1))))))))))) (fun ts k e hl h => val_law_take ts k e h)
abbrev N_law_folded : List Str := ["script", "size", "cells", "k", "cell"]
theorem sc_law_folded : FnScope N_law_folded ["script", "size"] (defScope s_law_folded) := ⟨rfl, rfl, rfl, by decide +kernel, rfl, by decide +kernel, by decide +kernel⟩
def phi_law_folded : FT := fun ts k _ => ∃ (ns : List Int) (n : Nat), ts = [.d (.lst (ns.map D.int)), .int n] ∧ 0 < n ∧ n < 100 ∧ ns.length ≤ 63 ∧
  ∀ ms : List Int, ms.length = min n ns.length → k (.lst (ms.map T.int)) [.d (.lst (ns.map D.int)), .int n]
def sem_law_folded : SS :=
    (sSeq (sAsg (sCB (fc1 fList) (sCons (sSl fSl (sVar 0) sNoPart (sPart (sVar 1))) sNil)) (gN 2))
    (sSeq (sFor (sIE (sCons (sSl fSl (sVar 0) (sPart (sVar 1)) (sPart (sC (.int 63)))) sNil)) (gT 2 (gCons (gN 3) (gCons (gN 4) gNil))) (sAsg (sBin fAdd (sRd (sBin fIx (sVar 2) (sBin fMod (sVar 3) (sVar 1)))) (sBin fMul (sVar 4) (sBin fAdd (sVar 3) (sC (.int 2))))) (gSetL 2 (sBin fMod (sVar 3) (sVar 1)))))
    (sRet (sMv 2))))
abbrev B_law_folded : Nat → Bool := (fun j => j == 2 || j == 3 || j == 4)
theorem val_law_folded (ts k e) (h : phi_law_folded ts k e) : sem_law_folded (endP B_law_folded ts k fun _ _ => False) (ts ++ [.gone, .gone, .gone]) := by
  obtain ⟨ns, n, rfl, hn, hn2, hl, hk⟩ := h
  walk_at "wp"
  refine forL_of (fun i env => ∃ (ms : List Int) (x y : T), env = [.d (.lst (ns.map D.int)), .int n, .lst (ms.map T.int), x, y] ∧ ms.length = min n ns.length) ⟨ns.take n, .gone, .gone, ?_, ?_⟩ ?_ ?_
  · rw [List.map_map, cutG_map, cutG_to]
    rfl
  · simp
  · rintro i t env N ht ⟨ms, x, y, rfl, hm⟩ hN
    rw [List.map_map, cutG_map] at ht
    obtain ⟨u, hu, rfl⟩ := enumT_get ht
    have h1 : i < (cutG ns (some (n : Int)) (some ((63 : Nat) : Int))).length := by
      have := (List.getElem?_eq_some_iff.mp hu).1
      rwa [List.length_map] at this
    rw [cutG_ft] at h1
    simp only [List.length_drop, List.length_take] at h1
    rw [List.getElem?_map] at hu
    obtain ⟨c, hc, rfl⟩ := Option.map_eq_some_iff.mp hu
    have hlt : i % n < ms.length := by
      have := Nat.mod_lt i hn
      omega
    have hat : (ms.map T.int)[i % n]? = some (.int (ms[i % n])) := by rw [List.getElem?_map, List.getElem?_eq_getElem hlt]; rfl
    walk_at "wp"
    refine ⟨show (0 : Int) < n by omega, ?_⟩
    walk_at "wp"
    refine asO_at (n := i % n) (Int.natCast_emod i n).symm (frzL_at hat) ?_
    walk_at "wp"
    refine ⟨cmul_r (by omega) (by omega), ?_⟩
    walk_at "wp"
    refine ⟨show (0 : Int) < n by omega, ?_⟩
    walk_at "wp"
    refine asN_of (i := i % n) (ixN_at ?_ (Int.natCast_emod i n).symm) ?_
    · rw [List.length_map]
      exact hlt
    refine hN _ ⟨ms.set (i % n) (ms[i % n] + c * ((i : Int) + 2)), .int i, .int c, ?_, ?_⟩
    · rw [List.map_set]
    · rw [List.length_set]
      exact hm
  · rintro env ⟨ms, x, y, rfl, hm⟩
    walk_at "wp"
    exact hk ms hm
theorem ok_law_folded {P : Program} {w : World} {K : PySem.W.Frag} {mg : Str → Option Value} {base : Heap} (T : Tx K mg) : FnOk P w K mg base CX0 1 T.a_law_folded T.fd_law_folded ["script", "size"] (spT K 2 phi_law_folded) :=
  def_ok B_law_folded T.F_law_folded sc_law_folded sem_law_folded (fun cdv A outer s H E hr =>
      (d_seq (d_set (i := 2) (by rfl) sc_law_folded.nd rfl (by first | exact Or.inl rfl | exact Or.inr rfl) (d_callTy cr_list rc_list (by rfl) T.b_list (by decide +kernel) (d_cons (d_sl sl_A rsl (d_var (i := 0) (pv 0)) d_onone (d_osome (d_var (i := 1) (pv 1)))) d_nil)))
      (d_seq (d_for PassesOwn.never rfl (d_iE (by rfl) T.b_enumerate (d_cons (d_sl sl_A rsl (d_var (i := 0) (pv 0)) (d_osome (d_var (i := 1) (pv 1))) (d_osome d_int)) d_nil)) (d_gT rfl (d_gcons (d_gN (i := 3) (by rfl) (pg_name (i := 3) sc_law_folded.nd rfl (by first | exact Or.inl rfl | exact Or.inr rfl))) (d_gcons (d_gN (i := 4) (by rfl) (pg_name (i := 4) sc_law_folded.nd rfl (by first | exact Or.inl rfl | exact Or.inr rfl))) d_gnil))) (d_last (d_asg (d_bin op_addA rb_add (d_rd (d_ix ix_seq rb_ix (d_var (i := 2) (pv 2)) (d_bin op_mod rb_I (d_var (i := 3) (pv 3)) (d_var (i := 1) (pv 1))))) (d_bin op_mul rb_I (d_var (i := 4) (pv 4)) (d_bin op_addA rb_add (d_var (i := 3) (pv 3)) d_int))) (d_gSetL (i := 2) (pg_sub (pv 2) (d_bin op_mod rb_I (d_var (i := 3) (pv 3)) (d_var (i := 1) (pv 1))) set_list)))))
      (d_last (d_ret (d_mv (i := 2) (pv 2))))))) (fun ts k e hl h => val_law_folded ts k e h)
abbrev N_law_word : List Str := ["box", "size", "k"]
theorem sc_law_word : FnScope N_law_word ["box", "size"] (defScope s_law_word) := ⟨rfl, rfl, rfl, by decide +kernel, rfl, by decide +kernel, by decide +kernel⟩
def phi_law_word : FT := fun ts k _ => ∃ (a b c : Int) (n : Nat), ts = [boxT a b c, .int n] ∧ 0 ≤ a ∧ 0 ≤ b ∧ b < 2147483647 ∧ 0 ≤ c ∧ c + n ≤ 1000000000 ∧ n ≤ 1000 ∧
  ∀ (z : Str) a' c', z.length = n → 0 ≤ a' → c ≤ c' → c' ≤ c + n → k (.str z) [boxT a' b c', .int n]
def sem_law_word : SS :=
    (sRet (sJoin (sC (.str "")) (sLc [2] (sIR1 (sCons (sVar 1) sNil)) (gN 2) sYes (sBin fIx (sC (.str "abcdefghijklmnopqrstuvwxyz")) (sCall0 2 phi_law_take [] (sLend 0 (sCons (sC (.int 26)) sNil)))))))
abbrev B_law_word : Nat → Bool := (fun j => false)
theorem val_law_word (ts k e) (h : phi_law_word ts k e) : sem_law_word (endP B_law_word ts k fun _ _ => False) (ts ++ [.gone]) := by
  obtain ⟨a, b, c, n, rfl, ha, hb, hb2, hc, hc2, hn, hk⟩ := h
  walk_at "wp"
  refine ⟨⟨by omega, by omega⟩, ?_⟩
  walk_at "wp"
  have hr : (rngT 0 (n : Int).toNat).length = n := by
    rw [rngT_len]
    exact Int.toNat_natCast n
  refine ⟨by rw [hr]; omega, ?_⟩
  refine lcL_of (fun i acc env => ∃ (cs : List Nat) (a' c' : Int) (x : T), env = [boxT a' b c', .int n, x] ∧ acc = (cs.map sgn).map T.str ∧ cs.length = i ∧ 0 ≤ a' ∧ c ≤ c' ∧ c' ≤ c + i) ⟨[], a, c, .gone, rfl, rfl, rfl, ha, by omega, by omega⟩ ?_ ?_
  · rintro i t acc env N ht ⟨cs, a', c', x, rfl, rfl, hcs, ha', hc', hc3⟩ hN
    have hi : i < n := by
      have := (List.getElem?_eq_some_iff.mp ht).1
      rwa [hr] at this
    obtain ⟨_, rfl⟩ := rngT_get ht
    walk_at "wp"
    refine ⟨a', b, c', 26, rfl, ha', hb, hb2, by omega, by omega, by decide, by decide, fun r a2 c2 hr0 hr1 ha2 hc4 hc5 => ?_⟩
    walk_at "wp"
    obtain ⟨q, hq⟩ : ∃ q : Nat, r = q := ⟨r.toNat, by omega⟩
    subst hq
    have hq2 : q < 26 := by omega
    refine ⟨by decide, ?_⟩
    obtain ⟨l, hl⟩ : ∃ l, (Str.ofString "abcdefghijklmnopqrstuvwxyz").cps.toList[q]? = some l := ⟨_, List.getElem?_eq_getElem (by rw [lets_len]; exact hq2)⟩
    refine asO_at rfl hl ?_
    walk_at "wp"
    refine hN _ _ ⟨cs ++ [l], a2, c2, _, rfl, ?_, ?_, ha2, by omega, by omega⟩
    · rw [List.map_append, List.map_append]
      rfl
    · rw [List.length_append, hcs]
      rfl
  · rintro acc env ⟨cs, a', c', x, rfl, rfl, hcs, ha', hc', hc3⟩
    rw [hr] at hcs hc3
    walk_at "wp"
    rw [strsT_map]
    walk_at "wp"
    refine ⟨?_, ?_⟩
    · rw [sgn_sum]
      show _ + _ * 0 ≤ _
      omega
    walk_at "wp"
    exact hk _ a' c' (by rw [sgn_join]; exact hcs) ha' hc' hc3
theorem ok_law_word {P : Program} {w : World} {K : PySem.W.Frag} {mg : Str → Option Value} {base : Heap} (T : Tx K mg) : FnOk P w K mg base CX0 2 T.a_law_word T.fd_law_word ["box", "size"] (spT K 2 phi_law_word) :=
  def_ok B_law_word T.F_law_word sc_law_word sem_law_word (fun cdv A outer s H E hr =>
      (d_last (d_ret (d_join d_str (d_lc (own := [("k", 2)]) (fun j => j == 2) (own_1) rfl sc_law_word.nd (d_iR1 (by rfl) T.b_range (d_cons (d_var (i := 1) (pv 1)) d_nil)) (blkOk_by (own := [("k", 2)]) (N := N_law_word) (sc := defScope s_law_word) (by decide +kernel)) (fun _ _ _ _ _ => (d_gN (i := 2) (by rfl) (pg_name (i := 2) sc_law_word.nd rfl (by first | exact Or.inl rfl | exact Or.inr rfl)))) (fun _ _ _ _ _ => d_tnil) (fun _ _ _ _ _ => (d_ix ix_seq rb_ix d_str (d_call0 (ok_law_take T) (hr.mono (by decide)) (by rfl) T.m_law_take T.F_law_take.kp T.B_law_take .nil (d_lend (i := 0) (pv 0) (d_cons d_int d_nil)))))))))) (fun ts k e hl h => val_law_word ts k e h)
abbrev N_law : List Str := ["script", "cells", "k", "box", "turn", "text", "at", "sign", "one", "letters", "due", "echo", "found", "letter"]
theorem sc_law : FnScope N_law ["script"] (defScope s_law) := ⟨rfl, rfl, rfl, by decide +kernel, rfl, by decide +kernel, by decide +kernel⟩
def phi_law : FT := fun ts k _ => ∃ ns : List Int, ts = [.d (.lst (ns.map D.int))] ∧ ns.length ≤ 63 ∧ k (.bl true) [.d (.lst (ns.map D.int))]
def sem_law : SS :=
    (sSeq (sAsg (sFrz (sCall0 2 phi_law_folded [] (sCons (sVar 0) (sCons (sC (.int 8)) sNil)))) (gN 1))
    (sSeq (sFor (sIR1 (sCons (sCB (fc2 fMax2) (sCons (sC (.int 1)) (sCons (sCB (fc1 fLen) (sCons (sVar 1) sNil)) sNil))) sNil)) (gN 2) (sSeq (sAsg (sCall0 2 phi_law_box [] (sCons (sVar 1) (sCons (sVar 2) sNil))) (gN 3))
    (sFor (sIR1 (sCons (sC (.int 12)) sNil)) (gN 4) (sSeq (sAsg (sFrz (sCall0 2 phi_law_word [] (sLend 3 (sCons (sBin fIx (sLst (sCons (sCall0 2 phi_law_take [] (sLend 3 (sCons (sC (.int 61)) sNil))) (sCons (sBin fAdd (sC (.int 5)) (sCall0 2 phi_law_take [] (sLend 3 (sCons (sC (.int 5)) sNil)))) sNil))) (sCall0 2 phi_law_take [] (sLend 3 (sCons (sC (.int 2)) sNil)))) sNil)))) (gN 5))
    (sSeq (sAsg (sFrz (sCall0 2 phi_law_take [] (sLend 3 (sCons (sBin fAdd (sCB (fc1 fLen) (sCons (sVar 5) sNil)) (sC (.int 1))) sNil)))) (gN 6))
    (sSeq (sAsg (sFrz (sBin fIx (sC (.str "A0 _z.{`-")) (sCall0 2 phi_law_take [] (sLend 3 (sCons (sC (.int 9)) sNil))))) (gN 7))
    (sFor (sIU (sTup (sCons (sVar 5) (sCons (sBin fAdd (sBin fAdd (sSl fSl (sVar 5) sNoPart (sPart (sVar 6))) (sVar 7)) (sSl fSl (sVar 5) (sPart (sVar 6)) sNoPart)) (sCons (sBin fAdd (sBin fAdd (sSl fSl (sVar 5) sNoPart (sPart (sVar 6))) (sVar 7)) (sSl fSl (sVar 5) (sPart (sBin fAdd (sVar 6) (sC (.int 1)))) sNoPart)) (sCons (sBin fAdd (sVar 5) (sVar 5)) sNil)))))) (gN 8) (sSeq (sAsg (sFrz (sCB (fc1 fLen) (sCons (sLc [13] (sIS (sVar 8)) (gN 13) (sTest (sChain fLe fLe (sC (.str "a")) (sVar 13) (sC (.str "z")))) (sVar 13)) sNil))) (gN 9))
    (sSeq (sAsg (sAndV (sBin fEq (sVar 9) (sCB (fc1 fLen) (sCons (sVar 8) sNil))) (sChain fLt fLt (sC (.int 0)) (sVar 9) (sC (.int 7)))) (gN 10))
    (sFor (sIR1 (sCons (sC (.int 2)) sNil)) (gN 11) (sSeq (sAsg (sFrz (sCall0 1 phi_is_name [] (sCons (sVar 8) sNil))) (gN 12))
    (sIfS (sOr (sNot (sTest (sIsTy .bool (sVar 12)))) (sTest (sBin fNe (sVar 12) (sVar 10)))) (sRet (sC (.bl false))) sSkip))))))))))))
    (sRet (sC (.bl true)))))
abbrev B_law : Nat → Bool := (fun j => j == 1 || j == 2 || j == 3 || j == 4 || j == 5 || j == 6 || j == 7 || j == 8 || j == 9 || j == 10 || j == 11 || j == 12)
theorem val_law (ts k e) (h : phi_law ts k e) : sem_law (endP B_law ts k fun _ _ => False) (ts ++ [.gone, .gone, .gone, .gone, .gone, .gone, .gone, .gone, .gone, .gone, .gone, .gone, .gone]) := by
  obtain ⟨ns, rfl, hl, hk⟩ := h
  walk_at "wp"
  refine ⟨ns, 8, rfl, by decide, by decide, hl, fun ms hms => ?_⟩
  walk_at "wp"
  have hms2 : ms.length ≤ 8 := by omega
  have hfr : T.d (frz (T.lst (ms.map T.int))) = .d (.lst (ms.map D.int)) := by
    rw [frz, frzL_of (g := D.int) (fun x => rfl)]
  have hmx : ∀ n : Nat, n ≤ 8 → (if (n : Int) > 1 then (n : Int) else 1) ≤ 8 := fun n h => by split <;> omega
  refine ⟨?_, ?_⟩
  · rw [frzL_map, List.length_map, List.length_map]
    have := hmx ms.length hms2
    unfold WC.inR
    omega
  refine forL_of (fun i env => i ≤ 8 ∧ ∃ t2 t3 t4 t5 t6 t7 t8 t9 t10 t11 t12 t13 : T, env = [.d (.lst (ns.map D.int)), .d (.lst (ms.map D.int)), t2, t3, t4, t5, t6, t7, t8, t9, t10, t11, t12, t13]) ⟨by decide, .gone, .gone, .gone, .gone, .gone, .gone, .gone, .gone, .gone, .gone, .gone, .gone, ?_⟩ ?_ ?_
  · rw [← hfr]
  · rintro i t env N ht ⟨hi, t2, t3, t4, t5, t6, t7, t8, t9, t10, t11, t12, t13, rfl⟩ hN
    obtain ⟨hi2, rfl⟩ := rngT_get ht
    have hi8 : i < 8 := by
      rw [frzL_map, List.length_map, List.length_map] at hi2
      have := hmx ms.length hms2
      omega
    walk_at "wp"
    refine ⟨ms, (0 + (i : Int)), rfl, by omega, by omega, fun a b ha hb hb2 => ?_⟩
    walk_at "wp"
    refine ⟨⟨by decide, by decide⟩, ?_⟩
    refine forL_of (fun j env => ∃ (a c : Int) (t4 t5 t6 t7 t8 t9 t10 t11 t12 t13 : T), env = [.d (.lst (ns.map D.int)), .d (.lst (ms.map D.int)), .int (0 + (i : Int)), boxT a b c, t4, t5, t6, t7, t8, t9, t10, t11, t12, t13] ∧ 0 ≤ a ∧ 0 ≤ c ∧ c ≤ 100 * j) ⟨a, 0, t4, t5, t6, t7, t8, t9, t10, t11, t12, t13, rfl, ha, by omega, by omega⟩ ?_ ?_
    · clear ha a
      rintro j t env N ht ⟨a, c, t4, t5, t6, t7, t8, t9, t10, t11, t12, t13, rfl, ha, hc, hc2⟩ hN
      obtain ⟨hj, rfl⟩ := rngT_get ht
      have hj : j < 12 := hj
      walk_at "wp"
      refine ⟨a, b, c, 61, rfl, ha, hb, hb2, by omega, by omega, by omega, by omega, fun r1 a1 c1 r1a r1b a1h c1a c1b => ?_⟩
      walk_at "wp"
      refine ⟨a1, b, c1, 5, rfl, a1h, hb, hb2, by omega, by omega, by omega, by omega, fun r2 a2 c2 r2a r2b a2h c2a c2b => ?_⟩
      walk_at "wp"
      refine ⟨a2, b, c2, 2, rfl, a2h, hb, hb2, by omega, by omega, by omega, by omega, fun r3 a3 c3 r3a r3b a3h c3a c3b => ?_⟩
      walk_at "wp"
      obtain ⟨n, hat, hn⟩ := at2 (m := 60) (y := 5 + r2) r3a r3b r1a (by omega) (by omega) (by omega)
      refine asO_of hat ?_
      walk_at "wp"
      refine ⟨a3, b, c3, n, rfl, a3h, hb, hb2, by omega, by omega, by omega, fun z a4 c4 hz a4h c4a c4b => ?_⟩
      walk_at "wp"
      have hzs : z.length ≤ sizeLine := Nat.le_trans (show z.length ≤ 1000 by omega) (by decide)
      refine ⟨hzs, ?_⟩
      walk_at "wp"
      refine ⟨a4, b, c4, z.length + 1, rfl, a4h, hb, hb2, by omega, by omega, by omega, by omega, fun at' a5 c5 ata atb a5h c5a c5b => ?_⟩
      walk_at "wp"
      refine ⟨a5, b, c5, 9, rfl, a5h, hb, hb2, by omega, by omega, by omega, by omega, fun r6 a6 c6 r6a r6b a6h c6a c6b => ?_⟩
      walk_at "wp"
      refine ⟨by decide, ?_⟩
      obtain ⟨g, hg⟩ : ∃ g, (Str.ofString "A0 _z.{`-").cps.toList[r6.toNat]? = some g := ⟨_, List.getElem?_eq_getElem (by rw [show (Str.ofString "A0 _z.{`-").cps.toList.length = 9 by decide +kernel]; omega)⟩
      refine asO_at (n := r6.toNat) (by omega) hg ?_
      have hln : ∀ lo hi, (cutS z lo hi).length ≤ 60 := fun lo hi => Nat.le_trans (cutS_le _ _ _) (by omega)
      have hg1 : (⟨#[g]⟩ : Str).length = 1 := rfl
      have hsz : ∀ m : Nat, m ≤ 1000 → m ≤ sizeLine := fun m h => Nat.le_trans h (by decide)
      have e1 := hln none (some at')
      have e2 := hln (some at') none
      have e3 := hln (some (at' + 1)) none
      walk_at "wp"
      refine ⟨hzs, ?_⟩
      walk_at "wp"
      refine ⟨line2 e1 (Nat.le_refl 1) (by decide), ?_⟩
      walk_at "wp"
      refine ⟨hzs, ?_⟩
      walk_at "wp"
      refine ⟨line2 (len_app e1 (Nat.le_refl 1)) e2 (by decide), ?_⟩
      walk_at "wp"
      refine ⟨hzs, ?_⟩
      walk_at "wp"
      refine ⟨line2 e1 (Nat.le_refl 1) (by decide), ?_⟩
      walk_at "wp"
      refine ⟨hzs, ?_⟩
      walk_at "wp"
      refine ⟨line2 (len_app e1 (Nat.le_refl 1)) e3 (by decide), ?_⟩
      walk_at "wp"
      refine ⟨line2 (Nat.le_refl z.length) (Nat.le_refl z.length) (by omega), ?_⟩
      walk_at "wp"
      refine forL_of (fun _ env => ∃ t8 t9 t10 t11 t12 t13 : T, env = [.d (.lst (ns.map D.int)), .d (.lst (ms.map D.int)), .int (0 + (i : Int)), boxT a6 b c6, .int (0 + (j : Int)), .str z, .int at', .str ⟨#[g]⟩, t8, t9, t10, t11, t12, t13]) ⟨t8, t9, t10, t11, t12, t13, rfl⟩ ?_ ?_
      · rintro q t env N ht ⟨t8, t9, t10, t11, t12, t13, rfl⟩ hN
        obtain ⟨w, rfl, hw⟩ : ∃ w : Str, t = .str w ∧ w.length ≤ 200 := by
          have hm := List.mem_of_getElem? ht
          simp only [List.map_cons, List.map_nil, List.mem_cons, List.not_mem_nil, or_false] at hm
          rcases hm with h | h | h | h
          · exact ⟨_, h, by omega⟩
          · exact ⟨_, h, Nat.le_trans (len_app (len_app e1 (Nat.le_refl 1)) e2) (by decide)⟩
          · exact ⟨_, h, Nat.le_trans (len_app (len_app e1 (Nat.le_refl 1)) e3) (by decide)⟩
          · exact ⟨_, h, Nat.le_trans (len_app (Nat.le_refl _) (Nat.le_refl _)) (by omega)⟩
        clear ht
        walk_at "wp"
        have hlen : (strT w).length = w.length := by
          unfold strT
          rw [List.length_map]
          exact Array.length_toList
        refine ⟨by omega, ?_⟩
        refine lcL_of (fun i' acc env => ∃ x, env = [.d (.lst (ns.map D.int)), .d (.lst (ms.map D.int)), .int (0 + (i : Int)), boxT a6 b c6, .int (0 + (j : Int)), .str z, .int at', .str ⟨#[g]⟩, .str w, t9, t10, t11, t12, x] ∧ acc.length = ((w.cps.toList.take i').filter letterC).length) ⟨.gone, rfl, rfl⟩ ?_ ?_
        · rintro i' t acc env N ht ⟨x, rfl, hacc⟩ hN
          unfold strT at ht
          rw [List.getElem?_map] at ht
          obtain ⟨l, hl', rfl⟩ := Option.map_eq_some_iff.mp ht
          walk_at "wp"
          have htk : (w.cps.toList.take (i' + 1)).filter letterC = (w.cps.toList.take i').filter letterC ++ [l].filter letterC := by
            rw [List.take_add_one, hl', List.filter_append]
            rfl
          refine wh_nd (fun h1 => ?_) (fun h1 => ?_)
          · walk_at "wp"
            rw [show (Str.ofString "a").cps.toList = [97] by decide +kernel] at h1
            have h1' : ¬ l < 97 := fun z => h1 (sgn_lt.mpr z)
            refine wh_nd (fun h2 => ?_) (fun h2 => ?_)
            · walk_at "wp"
              rw [show (Str.ofString "z").cps.toList = [122] by decide +kernel] at h2
              have h2' : ¬ 122 < l := fun z => h2 (sgn_lt.mpr z)
              refine hN _ _ ⟨_, rfl, ?_⟩
              rw [htk, List.length_append, List.length_append, hacc]
              simp [letterC, show 97 ≤ l ∧ l ≤ 122 by omega]
            · walk_at "wp"
              rw [show (Str.ofString "z").cps.toList = [122] by decide +kernel] at h2
              have h2' : 122 < l := sgn_lt.mp h2
              refine hN _ _ ⟨_, rfl, ?_⟩
              rw [htk, List.length_append, hacc]
              simp [letterC, show ¬ (97 ≤ l ∧ l ≤ 122) by omega]
          · walk_at "wp"
            rw [show (Str.ofString "a").cps.toList = [97] by decide +kernel] at h1
            have h1' : l < 97 := sgn_lt.mp h1
            refine hN _ _ ⟨_, rfl, ?_⟩
            rw [htk, List.length_append, hacc]
            simp [letterC, show ¬ (97 ≤ l ∧ l ≤ 122) by omega]
        · rintro acc env ⟨x, rfl, hacc⟩
          rw [hlen, show w.length = w.cps.toList.length from Array.length_toList.symm, List.take_length] at hacc
          have hws : w.length ≤ sizeLine := Nat.le_trans (show w.length ≤ 1000 by omega) (by decide)
          have hfl : w.cps.toList.length = w.length := Array.length_toList
          have hall : w.cps.toList.all letterC = decide (acc.length = w.length) := by
            rw [Bool.eq_iff_iff, decide_eq_true_eq, List.all_eq_true, hacc, ← hfl]
            exact List.length_filter_eq_length_iff.symm
          walk_at "wp"
          refine ⟨hws, ?_⟩
          walk_at "wp"
          have fin : ∀ d : Bool, d = isNm w → [T.d (.lst (ns.map D.int)), .d (.lst (ms.map D.int)), .int (0 + (i : Int)), boxT a6 b c6, .int (0 + (j : Int)), .str z, .int at', .str ⟨#[g]⟩, .str w, .int (acc.length : Nat), .bl d, t11, t12, t13] = [T.d (.lst (ns.map D.int)), .d (.lst (ms.map D.int)), .int (0 + (i : Int)), boxT a6 b c6, .int (0 + (j : Int)), .str z, .int at', .str ⟨#[g]⟩, .str w, .int (acc.length : Nat), .bl (isNm w), t11, t12, t13] := fun d hd => by rw [hd]
          refine wh_ei (fun he => ?_) (fun he => ?_)
          · walk_at "wp"
            refine wh_d (fun h0 => ?_) (fun h0 => ?_)
            · have hd : decide ((acc.length : Int) < 7) = isNm w := by
                unfold isNm
                rw [hall, Bool.eq_iff_iff]
                simp
                omega
              walk_at "wp"
              refine ⟨⟨by decide, by decide⟩, ?_⟩
              refine forL_of (fun _ env => ∃ t11 t12, env = [T.d (.lst (ns.map D.int)), .d (.lst (ms.map D.int)), .int (0 + (i : Int)), boxT a6 b c6, .int (0 + (j : Int)), .str z, .int at', .str ⟨#[g]⟩, .str w, .int (acc.length : Nat), .bl (isNm w), t11, t12, t13]) ⟨t11, t12, fin _ hd⟩ ?_ ?_
              · rintro q t env N ht ⟨t11, t12, rfl⟩ hN
                walk_at "wp"
                refine ⟨w, rfl, by omega, ?_⟩
                walk_at "wp"
                refine wh_nd (fun hx => absurd rfl hx) (fun _ => ?_)
                walk_at "wp"
                exact hN _ ⟨_, _, rfl⟩
              · rintro env ⟨t11, t12, rfl⟩
                walk_at "wp"
                exact hN _ ⟨_, _, _, _, _, _, rfl⟩
            · have hd : false = isNm w := by
                unfold isNm
                rw [hall, eq_comm, Bool.and_eq_false_iff, decide_eq_false_iff_not]
                omega
              walk_at "wp"
              refine ⟨⟨by decide, by decide⟩, ?_⟩
              refine forL_of (fun _ env => ∃ t11 t12, env = [T.d (.lst (ns.map D.int)), .d (.lst (ms.map D.int)), .int (0 + (i : Int)), boxT a6 b c6, .int (0 + (j : Int)), .str z, .int at', .str ⟨#[g]⟩, .str w, .int (acc.length : Nat), .bl (isNm w), t11, t12, t13]) ⟨t11, t12, fin _ hd⟩ ?_ ?_
              · rintro q t env N ht ⟨t11, t12, rfl⟩ hN
                walk_at "wp"
                refine ⟨w, rfl, by omega, ?_⟩
                walk_at "wp"
                refine wh_nd (fun hx => absurd rfl hx) (fun _ => ?_)
                walk_at "wp"
                exact hN _ ⟨_, _, rfl⟩
              · rintro env ⟨t11, t12, rfl⟩
                walk_at "wp"
                exact hN _ ⟨_, _, _, _, _, _, rfl⟩
          · have hd : false = isNm w := by
              unfold isNm
              rw [hall, decide_eq_false (show ¬ acc.length = w.length by omega), Bool.and_false]
            walk_at "wp"
            refine ⟨⟨by decide, by decide⟩, ?_⟩
            refine forL_of (fun _ env => ∃ t11 t12, env = [T.d (.lst (ns.map D.int)), .d (.lst (ms.map D.int)), .int (0 + (i : Int)), boxT a6 b c6, .int (0 + (j : Int)), .str z, .int at', .str ⟨#[g]⟩, .str w, .int (acc.length : Nat), .bl (isNm w), t11, t12, t13]) ⟨t11, t12, fin _ hd⟩ ?_ ?_
            · rintro q t env N ht ⟨t11, t12, rfl⟩ hN
              walk_at "wp"
              refine ⟨w, rfl, by omega, ?_⟩
              walk_at "wp"
              refine wh_nd (fun hx => absurd rfl hx) (fun _ => ?_)
              walk_at "wp"
              exact hN _ ⟨_, _, rfl⟩
            · rintro env ⟨t11, t12, rfl⟩
              walk_at "wp"
              exact hN _ ⟨_, _, _, _, _, _, rfl⟩
      · rintro env ⟨t8, t9, t10, t11, t12, t13, rfl⟩
        walk_at "wp"
        exact hN _ ⟨a6, c6, _, _, _, _, _, _, _, _, _, _, rfl, a6h, by omega, by omega⟩
    · rintro env ⟨a, c, t4, t5, t6, t7, t8, t9, t10, t11, t12, t13, rfl, ha, hc, hc2⟩
      walk_at "wp"
      exact hN _ ⟨by omega, _, _, _, _, _, _, _, _, _, _, _, _, rfl⟩
  · rintro env ⟨hi, t2, t3, t4, t5, t6, t7, t8, t9, t10, t11, t12, t13, rfl⟩
    walk_at "wp"
    exact hk
theorem law_phi (ns : List Int) (hl : ns.length ≤ 63) : phi_law [.d (.lst (ns.map D.int))] (fun t _ => t = .bl true) fun _ _ => False := ⟨ns, rfl, hl, rfl⟩
theorem ok_law {P : Program} {w : World} {K : PySem.W.Frag} {mg : Str → Option Value} {base : Heap} (T : Tx K mg) : FnOk P w K mg base CX0 3 T.a_law T.fd_law ["script"] (spT K 1 phi_law) :=
  def_ok B_law T.F_law sc_law sem_law (fun cdv A outer s H E hr =>
      (d_seq (d_set (i := 1) (by rfl) sc_law.nd rfl (by first | exact Or.inl rfl | exact Or.inr rfl) (d_frz (d_call0 (ok_law_folded T) (hr.mono (by decide)) (by rfl) T.m_law_folded T.F_law_folded.kp T.B_law_folded .nil (d_cons (d_var (i := 0) (pv 0)) (d_cons d_int d_nil)))))
      (d_seq (d_for PassesOwn.never rfl (d_iR1 (by rfl) T.b_range (d_cons (d_callB (cr_max2 rfl) (rc2 rb_I0) (by rfl) T.b_max (by decide +kernel) (d_cons d_int (d_cons (d_callB cr_len rc_len (by rfl) T.b_len (by decide +kernel) (d_cons (d_var (i := 1) (pv 1)) d_nil)) d_nil))) d_nil)) (d_gN (i := 2) (by rfl) (pg_name (i := 2) sc_law.nd rfl (by first | exact Or.inl rfl | exact Or.inr rfl))) (d_seq (d_set (i := 3) (by rfl) sc_law.nd rfl (by first | exact Or.inl rfl | exact Or.inr rfl) (d_call0 (ok_law_box T) (hr.mono (by decide)) (by rfl) T.m_law_box T.F_law_box.kp T.B_law_box .nil (d_cons (d_var (i := 1) (pv 1)) (d_cons (d_var (i := 2) (pv 2)) d_nil))))
      (d_last (d_for PassesOwn.never rfl (d_iR1 (by rfl) T.b_range (d_cons d_int d_nil)) (d_gN (i := 4) (by rfl) (pg_name (i := 4) sc_law.nd rfl (by first | exact Or.inl rfl | exact Or.inr rfl))) (d_seq (d_set (i := 5) (by rfl) sc_law.nd rfl (by first | exact Or.inl rfl | exact Or.inr rfl) (d_frz (d_call0 (ok_law_word T) (hr.mono (by decide)) (by rfl) T.m_law_word T.F_law_word.kp T.B_law_word .nil (d_lend (i := 3) (pv 3) (d_cons (d_ix ix_seq rb_ix (d_lst (d_cons (d_call0 (ok_law_take T) (hr.mono (by decide)) (by rfl) T.m_law_take T.F_law_take.kp T.B_law_take .nil (d_lend (i := 3) (pv 3) (d_cons d_int d_nil))) (d_cons (d_bin op_addA rb_add d_int (d_call0 (ok_law_take T) (hr.mono (by decide)) (by rfl) T.m_law_take T.F_law_take.kp T.B_law_take .nil (d_lend (i := 3) (pv 3) (d_cons d_int d_nil)))) d_nil))) (d_call0 (ok_law_take T) (hr.mono (by decide)) (by rfl) T.m_law_take T.F_law_take.kp T.B_law_take .nil (d_lend (i := 3) (pv 3) (d_cons d_int d_nil)))) d_nil)))))
      (d_seq (d_set (i := 6) (by rfl) sc_law.nd rfl (by first | exact Or.inl rfl | exact Or.inr rfl) (d_frz (d_call0 (ok_law_take T) (hr.mono (by decide)) (by rfl) T.m_law_take T.F_law_take.kp T.B_law_take .nil (d_lend (i := 3) (pv 3) (d_cons (d_bin op_addA rb_add (d_callB cr_len rc_len (by rfl) T.b_len (by decide +kernel) (d_cons (d_var (i := 5) (pv 5)) d_nil)) d_int) d_nil)))))
      (d_seq (d_set (i := 7) (by rfl) sc_law.nd rfl (by first | exact Or.inl rfl | exact Or.inr rfl) (d_frz (d_ix ix_seq rb_ix d_str (d_call0 (ok_law_take T) (hr.mono (by decide)) (by rfl) T.m_law_take T.F_law_take.kp T.B_law_take .nil (d_lend (i := 3) (pv 3) (d_cons d_int d_nil))))))
      (d_last (d_for PassesOwn.never rfl (d_iU (d_tup (d_cons (d_var (i := 5) (pv 5)) (d_cons (d_bin op_addA rb_add (d_bin op_addA rb_add (d_sl sl_A rsl (d_var (i := 5) (pv 5)) d_onone (d_osome (d_var (i := 6) (pv 6)))) (d_var (i := 7) (pv 7))) (d_sl sl_A rsl (d_var (i := 5) (pv 5)) (d_osome (d_var (i := 6) (pv 6))) d_onone)) (d_cons (d_bin op_addA rb_add (d_bin op_addA rb_add (d_sl sl_A rsl (d_var (i := 5) (pv 5)) d_onone (d_osome (d_var (i := 6) (pv 6)))) (d_var (i := 7) (pv 7))) (d_sl sl_A rsl (d_var (i := 5) (pv 5)) (d_osome (d_bin op_addA rb_add (d_var (i := 6) (pv 6)) d_int)) d_onone)) (d_cons (d_bin op_addA rb_add (d_var (i := 5) (pv 5)) (d_var (i := 5) (pv 5))) d_nil)))))) (d_gN (i := 8) (by rfl) (pg_name (i := 8) sc_law.nd rfl (by first | exact Or.inl rfl | exact Or.inr rfl))) (d_seq (d_set (i := 9) (by rfl) sc_law.nd rfl (by first | exact Or.inl rfl | exact Or.inr rfl) (d_frz (d_callB cr_len rc_len (by rfl) T.b_len (by decide +kernel) (d_cons (d_lc (own := [("letter", 13)]) (fun j => j == 13) (own_1) rfl sc_law.nd (d_iS (d_var (i := 8) (pv 8))) (blkOk_by (own := [("letter", 13)]) (N := N_law) (sc := defScope s_law) (by decide +kernel)) (fun _ _ _ _ _ => (d_gN (i := 13) (by rfl) (pg_name (i := 13) sc_law.nd rfl (by first | exact Or.inl rfl | exact Or.inr rfl)))) (fun _ _ _ _ _ => (d_tone (d_tchain op_leA op_leA rb_cmp rb_cmp d_str (d_var (i := 13) (pv 13)) d_str))) (fun _ _ _ _ _ => (d_var (i := 13) (pv 13)))) d_nil))))
      (d_seq (d_set (i := 10) (by rfl) sc_law.nd rfl (by first | exact Or.inl rfl | exact Or.inr rfl) (d_andV (d_cmp op_eq rb_eq (d_var (i := 9) (pv 9)) (d_callB cr_len rc_len (by rfl) T.b_len (by decide +kernel) (d_cons (d_var (i := 8) (pv 8)) d_nil)) (nomark _)) (d_one (d_chain op_ltA op_ltA rb_cmp rb_cmp d_int (d_var (i := 9) (pv 9)) d_int))))
      (d_last (d_for PassesOwn.never rfl (d_iR1 (by rfl) T.b_range (d_cons d_int d_nil)) (d_gN (i := 11) (by rfl) (pg_name (i := 11) sc_law.nd rfl (by first | exact Or.inl rfl | exact Or.inr rfl))) (d_seq (d_set (i := 12) (by rfl) sc_law.nd rfl (by first | exact Or.inl rfl | exact Or.inr rfl) (d_frz (d_call0 (ok_is_name T) (hr.mono (by decide)) (by rfl) T.m_is_name T.F_is_name.kp T.B_is_name .nil (d_cons (d_var (i := 8) (pv 8)) d_nil))))
      (d_last (d_ifS (d_w (d_or (d_not (d_tval (d_isTy (n := .bool) (by rfl) T.b_isinstance (d_var (i := 12) (pv 12)) (by rfl) T.b_bool (by decide +kernel)))) (d_or1 (d_tcmp op_ne rb_ne (d_var (i := 12) (pv 12)) (d_var (i := 10) (pv 10)) (nomark _))))) (d_last (d_ret d_bl)) d_skip))))))))))))))))
      (d_last (d_ret d_bl))))) (fun ts k e hl h => val_law ts k e h)
theorem all_mk {w : World} {K : PySem.W.Frag} {h : Heap} {mg : Str → Option Value} {fa : Addr} (X : K.In h) (G : h.Ns mainGlobals mg) (hfa : mg "law" = some (.ref fa))
    {f_is_name : Addr} {od_is_name an_is_name : Option Addr} {sl_is_name : Array (Option Value)} {oc_is_name kV_is_name dc_is_name pm_is_name cd_is_name ct_is_name : Value}
    {f_law_box : Addr} {od_law_box an_law_box : Option Addr} {sl_law_box : Array (Option Value)} {oc_law_box kV_law_box dc_law_box pm_law_box cd_law_box ct_law_box : Value}
    {f_law_take : Addr} {od_law_take an_law_take : Option Addr} {sl_law_take : Array (Option Value)} {oc_law_take kV_law_take dc_law_take pm_law_take cd_law_take ct_law_take : Value}
    {f_law_folded : Addr} {od_law_folded an_law_folded : Option Addr} {sl_law_folded : Array (Option Value)} {oc_law_folded kV_law_folded dc_law_folded pm_law_folded cd_law_folded ct_law_folded : Value}
    {f_law_word : Addr} {od_law_word an_law_word : Option Addr} {sl_law_word : Array (Option Value)} {oc_law_word kV_law_word dc_law_word pm_law_word cd_law_word ct_law_word : Value}
    {f_law : Addr} {od_law an_law : Option Addr} {sl_law : Array (Option Value)} {oc_law kV_law dc_law pm_law cd_law ct_law : Value}
    {u_LETTERS : Value} (g_LETTERS : PySem.W.nsIn K mainGlobals "LETTERS" = some (some u_LETTERS)) (r_LETTERS : RelV (.str "abcdefghijklmnopqrstuvwxyz") u_LETTERS)
    (a_is_name : PySem.W.nsIn K mainGlobals "is_name" = some (some (.ref f_is_name))) (l_is_name : K.lookup f_is_name = some ⟨oc_is_name, od_is_name, .func (PySem.W.fnOf "is_name" "is_name" (defArgs s_is_name) (defBody s_is_name) (defScope s_is_name) .none kV_is_name dc_is_name pm_is_name an_is_name cd_is_name ct_is_name), sl_is_name⟩) (c_is_name : PySem.W.codeIn K cd_is_name "is_name" = true) (k_is_name : PySem.W.keepIn K (.ref f_is_name) = true)
    (a_law_box : PySem.W.nsIn K mainGlobals "_law_box" = some (some (.ref f_law_box))) (l_law_box : K.lookup f_law_box = some ⟨oc_law_box, od_law_box, .func (PySem.W.fnOf "_law_box" "_law_box" (defArgs s_law_box) (defBody s_law_box) (defScope s_law_box) .none kV_law_box dc_law_box pm_law_box an_law_box cd_law_box ct_law_box), sl_law_box⟩) (c_law_box : PySem.W.codeIn K cd_law_box "_law_box" = true) (k_law_box : PySem.W.keepIn K (.ref f_law_box) = true)
    (a_law_take : PySem.W.nsIn K mainGlobals "_law_take" = some (some (.ref f_law_take))) (l_law_take : K.lookup f_law_take = some ⟨oc_law_take, od_law_take, .func (PySem.W.fnOf "_law_take" "_law_take" (defArgs s_law_take) (defBody s_law_take) (defScope s_law_take) .none kV_law_take dc_law_take pm_law_take an_law_take cd_law_take ct_law_take), sl_law_take⟩) (c_law_take : PySem.W.codeIn K cd_law_take "_law_take" = true) (k_law_take : PySem.W.keepIn K (.ref f_law_take) = true)
    (a_law_folded : PySem.W.nsIn K mainGlobals "_law_folded" = some (some (.ref f_law_folded))) (l_law_folded : K.lookup f_law_folded = some ⟨oc_law_folded, od_law_folded, .func (PySem.W.fnOf "_law_folded" "_law_folded" (defArgs s_law_folded) (defBody s_law_folded) (defScope s_law_folded) .none kV_law_folded dc_law_folded pm_law_folded an_law_folded cd_law_folded ct_law_folded), sl_law_folded⟩) (c_law_folded : PySem.W.codeIn K cd_law_folded "_law_folded" = true) (k_law_folded : PySem.W.keepIn K (.ref f_law_folded) = true)
    (a_law_word : PySem.W.nsIn K mainGlobals "_law_word" = some (some (.ref f_law_word))) (l_law_word : K.lookup f_law_word = some ⟨oc_law_word, od_law_word, .func (PySem.W.fnOf "_law_word" "_law_word" (defArgs s_law_word) (defBody s_law_word) (defScope s_law_word) .none kV_law_word dc_law_word pm_law_word an_law_word cd_law_word ct_law_word), sl_law_word⟩) (c_law_word : PySem.W.codeIn K cd_law_word "_law_word" = true) (k_law_word : PySem.W.keepIn K (.ref f_law_word) = true)
    (a_law : PySem.W.nsIn K mainGlobals "law" = some (some (.ref f_law))) (l_law : K.lookup f_law = some ⟨oc_law, od_law, .func (PySem.W.fnOf "law" "law" (defArgs s_law) (defBody s_law) (defScope s_law) .none kV_law dc_law pm_law an_law cd_law ct_law), sl_law⟩) (c_law : PySem.W.codeIn K cd_law "law" = true) (k_law : PySem.W.keepIn K (.ref f_law) = true)
    (z_abs : PySem.W.nsIn K mainGlobals "abs" = some none)
    (z_bool : PySem.W.nsIn K mainGlobals "bool" = some none)
    (z_divmod : PySem.W.nsIn K mainGlobals "divmod" = some none)
    (z_enumerate : PySem.W.nsIn K mainGlobals "enumerate" = some none)
    (z_int : PySem.W.nsIn K mainGlobals "int" = some none)
    (z_isinstance : PySem.W.nsIn K mainGlobals "isinstance" = some none)
    (z_len : PySem.W.nsIn K mainGlobals "len" = some none)
    (z_list : PySem.W.nsIn K mainGlobals "list" = some none)
    (z_max : PySem.W.nsIn K mainGlobals "max" = some none)
    (z_range : PySem.W.nsIn K mainGlobals "range" = some none)
    : ∃ fd : FuncData, (∀ (s : Shared) (v : Value), BindsTo s fd ⟨[v], []⟩ [("script", v)]) ∧ ∀ base : Heap, K.In base → base.Ns mainGlobals mg → FnOk PySem.Challenge.rw_wirechannel_k06_longer_words.prog w K mg base CX0 3 fa fd ["script"] (spT K 1 phi_law) := by
  have e := hfa.symm.trans (PySem.W.mg_of X G a_law)
  cases e
  have F_is_name := fun_mk (st := s_is_name) l_is_name c_is_name k_is_name
  have F_law_box := fun_mk (st := s_law_box) l_law_box c_law_box k_law_box
  have F_law_take := fun_mk (st := s_law_take) l_law_take c_law_take k_law_take
  have F_law_folded := fun_mk (st := s_law_folded) l_law_folded c_law_folded k_law_folded
  have F_law_word := fun_mk (st := s_law_word) l_law_word c_law_word k_law_word
  have F_law := fun_mk (st := s_law) l_law c_law k_law
  refine ⟨_, fun s v => .of_eq rfl, fun base _ _ => ok_law (K := K) (mg := mg) (base := base) (w := w) {
    b_abs := PySem.W.mg_none_of X G z_abs
    b_bool := PySem.W.mg_none_of X G z_bool
    b_divmod := PySem.W.mg_none_of X G z_divmod
    b_enumerate := PySem.W.mg_none_of X G z_enumerate
    b_int := PySem.W.mg_none_of X G z_int
    b_isinstance := PySem.W.mg_none_of X G z_isinstance
    b_len := PySem.W.mg_none_of X G z_len
    b_list := PySem.W.mg_none_of X G z_list
    b_max := PySem.W.mg_none_of X G z_max
    b_range := PySem.W.mg_none_of X G z_range
    u_LETTERS := u_LETTERS, g_LETTERS := PySem.W.mg_of X G g_LETTERS, r_LETTERS := r_LETTERS
    a_is_name := f_is_name, fd_is_name := _, F_is_name := F_is_name, m_is_name := PySem.W.mg_of X G a_is_name, B_is_name := F_is_name.binds (ps := ["word"]) fun _ _ _ _ _ _ us hl => match us, hl with | [_], _ => rfl
    a_law_box := f_law_box, fd_law_box := _, F_law_box := F_law_box, m_law_box := PySem.W.mg_of X G a_law_box, B_law_box := F_law_box.binds (ps := ["script", "k"]) fun _ _ _ _ _ _ us hl => match us, hl with | [_, _], _ => rfl
    a_law_take := f_law_take, fd_law_take := _, F_law_take := F_law_take, m_law_take := PySem.W.mg_of X G a_law_take, B_law_take := F_law_take.binds (ps := ["box", "size"]) fun _ _ _ _ _ _ us hl => match us, hl with | [_, _], _ => rfl
    a_law_folded := f_law_folded, fd_law_folded := _, F_law_folded := F_law_folded, m_law_folded := PySem.W.mg_of X G a_law_folded, B_law_folded := F_law_folded.binds (ps := ["script", "size"]) fun _ _ _ _ _ _ us hl => match us, hl with | [_, _], _ => rfl
    a_law_word := f_law_word, fd_law_word := _, F_law_word := F_law_word, m_law_word := PySem.W.mg_of X G a_law_word, B_law_word := F_law_word.binds (ps := ["box", "size"]) fun _ _ _ _ _ _ us hl => match us, hl with | [_, _], _ => rfl
    a_law := fa, fd_law := _, F_law := F_law, m_law := PySem.W.mg_of X G a_law, B_law := F_law.binds (ps := ["script"]) fun _ _ _ _ _ _ us hl => match us, hl with | [_], _ => rfl
    }⟩
end WCk
open PySem PySem.W PyProof.Rows
set_option maxHeartbeats 0 in
theorem PySem.Challenge.cw_wirechannel_k06_longer_words_holds : PySem.Challenge.rw_wirechannel_k06_longer_words.Holds := by
  w_on; o_law; k_head; (case hw => w_witness2)
  k_fill
  refine L2.walk_of (l := PySem.Challenge.rw_wirechannel_k06_longer_words) (n := 63) (k := 3) (x := "script") (CX := fun _ => L2.CX0) (sp := fun w => WC.spT _ 1 WCk.phi_law) rfl (by decide) rfl ⟨rfl, by decide, by decide⟩ (fun w h Y => PySem.W.kIn_of Y) ?F (fun _ H a ns hl _ hS => WC.start_of hS (WCk.law_phi ns hl)) (fun _ _ _ _ _ h => h)
  case F =>
    intro w mg fa h KX G hmg
    refine' WCk.all_mk (w := w) KX G hmg ?g_LETTERS ?r_LETTERS ?a_is_name ?l_is_name ?c_is_name ?k_is_name ?a_law_box ?l_law_box ?c_law_box ?k_law_box ?a_law_take ?l_law_take ?c_law_take ?k_law_take ?a_law_folded ?l_law_folded ?c_law_folded ?k_law_folded ?a_law_word ?l_law_word ?c_law_word ?k_law_word ?a_law ?l_law ?c_law ?k_law ?z_abs ?z_bool ?z_divmod ?z_enumerate ?z_int ?z_isinstance ?z_len ?z_list ?z_max ?z_range
    (case g_LETTERS => k_is)
    (case r_LETTERS => exact ⟨_, rfl⟩)
    (case a_is_name => k_is)
    (case l_is_name => k_is)
    (case c_is_name => k_is)
    (case k_is_name => k_is)
    (case a_law_box => k_is)
    (case l_law_box => k_is)
    (case c_law_box => k_is)
    (case k_law_box => k_is)
    (case a_law_take => k_is)
    (case l_law_take => k_is)
    (case c_law_take => k_is)
    (case k_law_take => k_is)
    (case a_law_folded => k_is)
    (case l_law_folded => k_is)
    (case c_law_folded => k_is)
    (case k_law_folded => k_is)
    (case a_law_word => k_is)
    (case l_law_word => k_is)
    (case c_law_word => k_is)
    (case k_law_word => k_is)
    (case a_law => k_is)
    (case l_law => k_is)
    (case c_law => k_is)
    (case k_law => k_is)
    (case z_abs => k_is)
    (case z_bool => k_is)
    (case z_divmod => k_is)
    (case z_enumerate => k_is)
    (case z_int => k_is)
    (case z_isinstance => k_is)
    (case z_len => k_is)
    (case z_list => k_is)
    (case z_max => k_is)
    (case z_range => k_is)
