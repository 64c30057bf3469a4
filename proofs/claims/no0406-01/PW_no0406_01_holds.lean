import PyProof.Rows.All
import Wide.All
import OpenK.AllK
import Wide.FinOn
import Lean
import PySem.Challenge.RW_no0406_01
open PySem PySem.W PyProof.Rows PySem.Calls PySem.Spec
set_option Elab.async false
set_option maxRecDepth 100000
set_option linter.unusedVariables false
set_option linter.unusedSimpArgs false

namespace Mine
noncomputable section
set_option genSizeOfSpec false
set_option genInjectivity false
inductive NE where
 | v (i : Nat) | n (k : Nat) | a (x y : NE) | m (k : Nat) (x : NE) | r (x : NE) (k : Nat)
inductive IE where
 | v (i : Nat) | n (k : Int) | a (x y : IE) | s (x y : IE) | m (k : Int) (x : IE) | r (x : IE) (k : Int) | g (x : IE) | c (e : NE)
noncomputable def nth {α : Type} (d : α) : List α → Nat → α
 | [],_ => d
 | x :: l,i => match i with
  | 0 => x
  | i + 1 => nth d l i
noncomputable def NE.den (q : List Nat) : NE → Nat
 | .v i => nth 0 q i
 | .n k => k
 | .a x y => x.den q + y.den q
 | .m k x => k * x.den q
 | .r x k => x.den q * k
noncomputable def IE.den (p : List Int) (q : List Nat) : IE → Int
 | .v i => nth 0 p i
 | .n k => k
 | .a x y => x.den p q + y.den p q
 | .s x y => x.den p q - y.den p q
 | .m k x => k * x.den p q
 | .r x k => x.den p q * k
 | .g x => - x.den p q
 | .c e => ((e.den q : Nat) : Int)
noncomputable def addL (a : List Int) : List Int → List Int := @List.rec Int (fun _ => List Int → List Int) (fun l => l) (fun x l ih r => @List.rec Int (fun _ => List Int) (x :: l) (fun y r _ => (x + y) :: ih r) r) a
noncomputable def sclL (k : Int) (a : List Int) : List Int := @List.rec Int (fun _ => List Int) [] (fun x _ ih => (k * x) :: ih) a
noncomputable def unitL (i : Nat) : List Int := @Nat.rec (fun _ => List Int) [1] (fun _ ih => 0 :: ih) i
noncomputable def dot (a : List Int) : List Int → Int := @List.rec Int (fun _ => List Int → Int) (fun _ => 0) (fun x l ih r => @List.rec Int (fun _ => Int) 0 (fun y r _ => x * y + ih r) r) a
noncomputable def up (a : List Nat) : List Int := @List.rec Nat (fun _ => List Int) [] (fun x _ ih => (x : Int) :: ih) a
structure LF where
 k : Int
 p : List Int
 q : List Int
noncomputable def LF.ev (f : LF) (p : List Int) (q : List Nat) : Int := f.k + dot f.p p + dot f.q (up q)
noncomputable def LF.add (f g : LF) : LF := ⟨f.k + g.k,addL f.p g.p,addL f.q g.q⟩
noncomputable def LF.scl (m : Int) (f : LF) : LF := ⟨m * f.k,sclL m f.p,sclL m f.q⟩
theorem aaac (a b c d : Int) : a + b + (c + d) = a + c + (b + d) := by rw [Int.add_assoc,Int.add_left_comm b,← Int.add_assoc]
theorem dot_nil (a : List Int) : dot a [] = 0 := by cases a <;> rfl
theorem dot_add (a : List Int) : ∀ (b c : List Int),dot (addL a b) c = dot a c + dot b c := by
 induction a with
 | nil => exact fun b c => (Int.zero_add _).symm
 | cons x a ih =>
  intro b c
  cases b with
  | nil => exact (Int.add_zero _).symm
  | cons y b =>
   cases c with
   | nil => exact (Int.add_zero 0).symm
   | cons z c => exact (show (x + y) * z + dot (addL a b) c = (x * z + dot a c) + (y * z + dot b c) by rw [ih,Int.add_mul,aaac])
theorem dot_scl (k : Int) (a : List Int) : ∀ (c : List Int),dot (sclL k a) c = k * dot a c := by
 induction a with
 | nil => exact fun c => (Int.mul_zero k).symm
 | cons x a ih =>
  intro c
  cases c with
  | nil => exact (Int.mul_zero k).symm
  | cons z c => exact (show k * x * z + dot (sclL k a) c = k * (x * z + dot a c) by rw [ih,Int.mul_add,Int.mul_assoc])
theorem dot_unit (i : Nat) : ∀ (c : List Int),dot (unitL i) c = nth 0 c i := by
 induction i with
 | zero => intro c;cases c with
  | nil => rfl
  | cons x c => exact (show 1 * x + dot [] c = x by rw [Int.one_mul];exact Int.add_zero x)
 | succ i ih => intro c;cases c with
  | nil => rfl
  | cons x c => exact (show 0 * x + dot (unitL i) c = nth 0 c i by rw [ih,Int.zero_mul,Int.zero_add])
theorem nth_up (i : Nat) : ∀ (q : List Nat),nth 0 (up q) i = ((nth 0 q i : Nat) : Int) := by
 induction i with
 | zero => intro q;cases q <;> rfl
 | succ i ih => intro q;cases q with
  | nil => rfl
  | cons x q => exact ih q
theorem LF.ev_add (f g : LF) (p q) : (f.add g).ev p q = f.ev p q + g.ev p q := by
 show f.k + g.k + dot (addL f.p g.p) p + dot (addL f.q g.q) (up q) = f.k + dot f.p p + dot f.q (up q) + (g.k + dot g.p p + dot g.q (up q))
 rw [dot_add,dot_add,aaac f.k,aaac]
theorem LF.ev_scl (m : Int) (f : LF) (p q) : (f.scl m).ev p q = m * f.ev p q := by
 show m * f.k + dot (sclL m f.p) p + dot (sclL m f.q) (up q) = m * (f.k + dot f.p p + dot f.q (up q))
 rw [dot_scl,dot_scl,Int.mul_add,Int.mul_add]
noncomputable def NE.lf : NE → LF
 | .v i => ⟨0,[],unitL i⟩
 | .n k => ⟨(k : Int),[],[]⟩
 | .a x y => x.lf.add y.lf
 | .m k x => x.lf.scl (k : Int)
 | .r x k => x.lf.scl (k : Int)
noncomputable def IE.lf : IE → LF
 | .v i => ⟨0,unitL i,[]⟩
 | .n k => ⟨k,[],[]⟩
 | .a x y => x.lf.add y.lf
 | .s x y => x.lf.add (y.lf.scl (-1))
 | .m k x => x.lf.scl k
 | .r x k => x.lf.scl k
 | .g x => x.lf.scl (-1)
 | .c e => e.lf
theorem z3 (k : Int) : k = k + 0 + 0 := by rw [Int.add_zero,Int.add_zero]
theorem NE.ok (p : List Int) (q : List Nat) (e : NE) : ((e.den q : Nat) : Int) = e.lf.ev p q := by
 induction e with
 | v i => exact (show ((nth 0 q i : Nat) : Int) = 0 + 0 + dot (unitL i) (up q) by rw [dot_unit,nth_up,Int.zero_add,Int.zero_add])
 | n k => exact z3 _
 | a x y i1 i2 => exact (LF.ev_add .. |>.trans (i1 ▸ i2 ▸ rfl)).symm
 | m k x ih => exact (LF.ev_scl .. |>.trans (ih ▸ (Int.natCast_mul k _).symm)).symm
 | r x k ih => exact (LF.ev_scl .. |>.trans (ih ▸ (Int.natCast_mul k _).symm.trans (congrArg Int.ofNat (Nat.mul_comm k _)))).symm
theorem IE.ok (p : List Int) (q : List Nat) (e : IE) : e.den p q = e.lf.ev p q := by
 induction e with
 | v i => exact (show nth 0 p i = 0 + dot (unitL i) p + 0 by rw [dot_unit,Int.zero_add,Int.add_zero])
 | n k => exact z3 _
 | a x y i1 i2 => exact (LF.ev_add .. |>.trans (i1 ▸ i2 ▸ rfl)).symm
 | s x y i1 i2 => exact (show x.den p q - y.den p q = _ from i1 ▸ i2 ▸ ((LF.ev_add ..).trans (by rw [LF.ev_scl,Int.neg_one_mul,← Int.sub_eq_add_neg])).symm)
 | m k x ih => exact (LF.ev_scl .. |>.trans (ih ▸ rfl)).symm
 | r x k ih => exact (LF.ev_scl .. |>.trans (ih ▸ Int.mul_comm k _)).symm
 | g x ih => exact (LF.ev_scl .. |>.trans (ih ▸ Int.neg_one_mul _)).symm
 | c e => exact NE.ok p q e
inductive Kd where
 | le | lt | eq | nle | nlt
noncomputable def Kd.rel (k : Kd) (a b : Int) : Prop := @Kd.rec (fun _ => Prop) (a ≤ b) (a < b) (a = b) (¬ a ≤ b) (¬ a < b) k
noncomputable def Kd.reN (k : Kd) (a b : Nat) : Prop := @Kd.rec (fun _ => Prop) (a ≤ b) (a < b) (a = b) (¬ a ≤ b) (¬ a < b) k
noncomputable def Kd.val (k : Kd) (a b : Int) : Int := @Kd.rec (fun _ => Int) (b + -1 * a + 0) (b + -1 * a + -1) (b + -1 * a + 0) (a + -1 * b + -1) (a + -1 * b + 0) k
noncomputable def Kd.isEq (k : Kd) : Bool := @Kd.rec (fun _ => Bool) false false true false false k
noncomputable def Kd.neg (k : Kd) : Kd := @Kd.rec (fun _ => Kd) .nle .nlt .eq .le .lt k
theorem sub1 (a b : Int) : b + -1 * a = b - a := by rw [Int.neg_one_mul,← Int.sub_eq_add_neg]
theorem Kd.ok {k : Kd} {a b : Int} (h : k.rel a b) : 0 ≤ k.val a b ∧ (k.isEq = true → k.val a b = 0) := by
 cases k with
 | le => exact ⟨(show 0 ≤ b + -1 * a + 0 by rw [sub1,Int.add_zero];exact Int.sub_nonneg_of_le h),nofun⟩
 | lt => exact ⟨(show 0 ≤ b + -1 * a + -1 by rw [sub1];exact Int.sub_nonneg_of_le (Int.add_one_le_of_lt (Int.sub_pos_of_lt h))),nofun⟩
 | eq => exact (show 0 ≤ b + -1 * a + 0 ∧ (_ → b + -1 * a + 0 = 0) by rw [sub1,Int.add_zero,show b = a from (show a = b from h).symm,Int.sub_self];exact ⟨Int.le_refl 0,fun _ => rfl⟩)
 | nle => exact ⟨(show 0 ≤ a + -1 * b + -1 by rw [sub1];exact Int.sub_nonneg_of_le (Int.add_one_le_of_lt (Int.sub_pos_of_lt (Int.not_le.mp h)))),nofun⟩
 | nlt => exact ⟨(show 0 ≤ a + -1 * b + 0 by rw [sub1,Int.add_zero];exact Int.sub_nonneg_of_le (Int.not_lt.mp h)),nofun⟩
theorem Kd.cast {k : Kd} {a b : Nat} (h : k.reN a b) : k.rel (a : Int) (b : Int) := by
 cases k with
 | le => exact Int.ofNat_le.mpr h
 | lt => exact Int.ofNat_lt.mpr h
 | eq => exact congrArg Int.ofNat h
 | nle => exact fun x => h (Int.ofNat_le.mp x)
 | nlt => exact fun x => h (Int.ofNat_lt.mp x)
inductive Hy where
 | I (k : Kd) (x y : IE)
 | N (k : Kd) (x y : NE)
noncomputable abbrev Hy.le (x y : IE) : Hy := .I .le x y
noncomputable abbrev Hy.lt (x y : IE) : Hy := .I .lt x y
noncomputable abbrev Hy.eq (x y : IE) : Hy := .I .eq x y
noncomputable abbrev Hy.nle (x y : IE) : Hy := .I .nle x y
noncomputable abbrev Hy.nlt (x y : IE) : Hy := .I .nlt x y
noncomputable abbrev Hy.Le (x y : NE) : Hy := .N .le x y
noncomputable abbrev Hy.Lt (x y : NE) : Hy := .N .lt x y
noncomputable abbrev Hy.Eq (x y : NE) : Hy := .N .eq x y
noncomputable abbrev Hy.NLe (x y : NE) : Hy := .N .nle x y
noncomputable abbrev Hy.NLt (x y : NE) : Hy := .N .nlt x y
noncomputable def Hy.den (p : List Int) (q : List Nat) (h : Hy) : Prop := @Hy.rec (fun _ => Prop) (fun k x y => k.rel (x.den p q) (y.den p q)) (fun k x y => k.reN (x.den q) (y.den q)) h
noncomputable def LF.cst (c : Int) (f : LF) : LF := ⟨f.k + c,f.p,f.q⟩
theorem LF.ev_cst (c : Int) (f : LF) (p q) : (f.cst c).ev p q = f.ev p q + c := by
 show f.k + c + dot f.p p + dot f.q (up q) = f.k + dot f.p p + dot f.q (up q) + c
 rw [Int.add_right_comm f.k c,Int.add_right_comm (f.k + dot f.p p) c]
noncomputable def Kd.lf (k : Kd) (x y : LF) : LF := @Kd.rec (fun _ => LF) ((y.add (x.scl (-1))).cst 0) ((y.add (x.scl (-1))).cst (-1)) ((y.add (x.scl (-1))).cst 0) ((x.add (y.scl (-1))).cst (-1)) ((x.add (y.scl (-1))).cst 0) k
theorem Kd.lf_ok (k : Kd) (x y : LF) (p q) : (k.lf x y).ev p q = k.val (x.ev p q) (y.ev p q) := by
 cases k <;> exact (LF.ev_cst ..).trans (congrArg (· + _) ((LF.ev_add ..).trans (congrArg (_ + ·) (LF.ev_scl ..))))
noncomputable def Hy.lf (h : Hy) : LF := @Hy.rec (fun _ => LF) (fun k x y => k.lf x.lf y.lf) (fun k x y => k.lf x.lf y.lf) h
noncomputable def Hy.isEq (h : Hy) : Bool := @Hy.rec (fun _ => Bool) (fun k _ _ => k.isEq) (fun k _ _ => k.isEq) h
theorem Hy.ok {p : List Int} {q : List Nat} {h : Hy} (d : h.den p q) : 0 ≤ h.lf.ev p q ∧ (h.isEq = true → h.lf.ev p q = 0) := by
 cases h with
 | I k x y =>
  have e : (Kd.lf k x.lf y.lf).ev p q = k.val (x.den p q) (y.den p q) := by rw [Kd.lf_ok,← IE.ok,← IE.ok]
  exact (show 0 ≤ (Kd.lf k x.lf y.lf).ev p q ∧ (k.isEq = true → (Kd.lf k x.lf y.lf).ev p q = 0) by rw [e];exact Kd.ok d)
 | N k x y =>
  have e : (Kd.lf k x.lf y.lf).ev p q = k.val (x.den q : Nat) (y.den q : Nat) := by rw [Kd.lf_ok,← NE.ok,← NE.ok]
  exact (show 0 ≤ (Kd.lf k x.lf y.lf).ev p q ∧ (k.isEq = true → (Kd.lf k x.lf y.lf).ev p q = 0) by rw [e];exact Kd.ok (Kd.cast d))
inductive HL (p : List Int) (q : List Nat) : List Hy → Prop
 | nil : HL p q []
 | cons {y : Hy} {l : List Hy} (h : y.den p q) (t : HL p q l) : HL p q (y :: l)
noncomputable def comb (l : List Hy) : List Int → LF := @List.rec Hy (fun _ => List Int → LF) (fun _ => ⟨0,[],[]⟩) (fun h _ ih m => @List.rec Int (fun _ => LF) ⟨0,[],[]⟩ (fun a r _ => (h.lf.scl a).add (ih r)) m) l
noncomputable def mult (l : List Hy) : List Int → Bool := @List.rec Hy (fun _ => List Int → Bool) (fun _ => true) (fun h _ ih m => @List.rec Int (fun _ => Bool) true (fun a r _ => (h.isEq || Int.ble' 0 a) && ih r) m) l
noncomputable def zeros (l : List Int) : Bool := @List.rec Int (fun _ => Bool) true (fun x _ ih => Int.beq' x 0 && ih) l
noncomputable def nopos (l : List Int) : Bool := @List.rec Int (fun _ => Bool) true (fun x _ ih => Int.ble' x 0 && ih) l
noncomputable def chk (l : List Hy) (m : List Int) : Bool := mult l m && (Int.blt' (comb l m).k 0 && (zeros (comb l m).p && nopos (comb l m).q))
theorem ev0 (p q) : (LF.mk 0 [] []).ev p q = 0 := rfl
theorem comb_ok {p : List Int} {q : List Nat} {l : List Hy} (H : HL p q l) : ∀ {m : List Int},mult l m = true → 0 ≤ (comb l m).ev p q := by
 induction H with
 | nil => exact fun _ => Int.le_refl 0
 | cons h1 _ ih =>
  intro m e
  cases m with
  | nil => exact Int.le_refl 0
  | cons a r =>
   have e := Bool.and_eq_true_iff.mp e
   have hy := Hy.ok h1
   have hm := (Bool.or_eq_true_iff.mp e.1).elim (fun q => (show 0 ≤ a * _ by rw [hy.2 q,Int.mul_zero];exact Int.le_refl 0)) fun q => Int.mul_nonneg ((Int.ble'_eq_true ..).mp q) hy.1
   refine (show 0 ≤ (LF.add _ _).ev p q from ?_)
   rw [LF.ev_add,LF.ev_scl];exact Int.add_nonneg hm (ih e.2)
theorem zeros_ok {l : List Int} : ∀ (c : List Int),zeros l = true → dot l c = 0 := by
 induction l with
 | nil => exact fun _ _ => rfl
 | cons x l ih =>
  intro c e
  cases c with
  | nil => rfl
  | cons y c =>
   have e := Bool.and_eq_true_iff.mp e
   exact (show x * y + dot l c = 0 by rw [ih c e.2,(Int.beq'_eq ..).mp e.1,Int.zero_mul];rfl)
theorem nopos_ok {l : List Int} : ∀ (q : List Nat),nopos l = true → dot l (up q) ≤ 0 := by
 induction l with
 | nil => exact fun _ _ => Int.le_refl 0
 | cons x l ih =>
  intro c e
  cases c with
  | nil => exact Int.le_refl 0
  | cons y c =>
   have e := Bool.and_eq_true_iff.mp e
   exact (show x * (y : Int) + dot l (up c) ≤ 0 from Int.add_nonpos (Int.mul_nonpos_of_nonpos_of_nonneg ((Int.ble'_eq_true ..).mp e.1) (Int.natCast_nonneg y)) (ih c e.2))
theorem linF (p : List Int) (q : List Nat) (l : List Hy) (m : List Int) (H : HL p q l) (e : chk l m = true) : False := by
 have e := Bool.and_eq_true_iff.mp e
 have e2 := Bool.and_eq_true_iff.mp e.2
 have e3 := Bool.and_eq_true_iff.mp e2.2
 have h0 := comb_ok H e.1
 have h1 := (Int.blt'_eq_true ..).mp e2.1
 have h2 := zeros_ok p e3.1
 have h3 := nopos_ok q e3.2
 have h4 : (comb l m).ev p q = (comb l m).k + 0 + dot (comb l m).q (up q) := congrArg (fun z => (comb l m).k + z + _) h2
 rw [h4,Int.add_zero] at h0
 exact Int.not_le.mpr (Int.add_neg_of_neg_of_nonpos h1 h3) h0
noncomputable def Hy.neg (h : Hy) : Hy := @Hy.rec (fun _ => Hy) (fun k x y => .I k.neg x y) (fun k x y => .N k.neg x y) h
theorem Kd.neg_ok {k : Kd} {a b : Int} (e : k.isEq = false) (h : k.neg.rel a b → False) : k.rel a b := by
 cases k with
 | le => exact Classical.not_not.mp h
 | lt => exact Classical.not_not.mp h
 | eq => cases e
 | nle => exact h
 | nlt => exact h
theorem Kd.neg_okN {k : Kd} {a b : Nat} (e : k.isEq = false) (h : k.neg.reN a b → False) : k.reN a b := by
 cases k with
 | le => exact Classical.not_not.mp h
 | lt => exact Classical.not_not.mp h
 | eq => cases e
 | nle => exact h
 | nlt => exact h
theorem Hy.neg_ok {p : List Int} {q : List Nat} {g : Hy} (e : g.isEq = false) (h : g.neg.den p q → False) : g.den p q := by
 cases g with
 | I => exact Kd.neg_ok e h
 | N => exact Kd.neg_okN e h
theorem lin (p : List Int) (q : List Nat) (g : Hy) (l : List Hy) (m : List Int) (H : HL p q l) (e : (!g.isEq && chk (g.neg :: l) m) = true) : g.den p q :=
 have e := Bool.and_eq_true_iff.mp e
 Hy.neg_ok ((Bool.not_eq_true' _).mp e.1) fun h => linF p q (g.neg :: l) m (.cons h H) e.2
noncomputable abbrev ξ0 : IE := .v 0
noncomputable abbrev ν0 : NE := .v 0
noncomputable abbrev ξ1 : IE := .v 1
noncomputable abbrev ν1 : NE := .v 1
noncomputable abbrev ξ2 : IE := .v 2
noncomputable abbrev ν2 : NE := .v 2
noncomputable abbrev ξ3 : IE := .v 3
noncomputable abbrev ν3 : NE := .v 3
noncomputable abbrev ξ4 : IE := .v 4
noncomputable abbrev ν4 : NE := .v 4
noncomputable abbrev ξ5 : IE := .v 5
noncomputable abbrev ν5 : NE := .v 5
noncomputable abbrev ξ6 : IE := .v 6
noncomputable abbrev ν6 : NE := .v 6
noncomputable abbrev ξ7 : IE := .v 7
noncomputable abbrev ν7 : NE := .v 7
theorem κ1 (p : List Int) (q : List Nat) (g y1 : Hy) (m : List Int) (h1 : y1.den p q) (e : (!g.isEq && chk (g.neg :: [y1]) m) = true) : g.den p q := lin p q g [y1] m (.cons h1 .nil) e
theorem ω1 (p : List Int) (q : List Nat) (g y1 : Hy) (h1 : y1.den p q) (e : (!g.isEq && chk (g.neg :: [y1]) [1,1]) = true) : g.den p q := lin p q g [y1] [1,1] (.cons h1 .nil) e
theorem φ1 (p : List Int) (q : List Nat) (y1 : Hy) (m : List Int) (h1 : y1.den p q) (e : chk [y1] m = true) : False := linF p q [y1] m (.cons h1 .nil) e
theorem β1 (p : List Int) (q : List Nat) (y1 : Hy) (h1 : y1.den p q) (e : chk [y1] [1] = true) : False := linF p q [y1] [1] (.cons h1 .nil) e
theorem κ2 (p : List Int) (q : List Nat) (g y1 y2 : Hy) (m : List Int) (h1 : y1.den p q) (h2 : y2.den p q) (e : (!g.isEq && chk (g.neg :: [y1,y2]) m) = true) : g.den p q := lin p q g [y1,y2] m (.cons h1 (.cons h2 .nil)) e
theorem ω2 (p : List Int) (q : List Nat) (g y1 y2 : Hy) (h1 : y1.den p q) (h2 : y2.den p q) (e : (!g.isEq && chk (g.neg :: [y1,y2]) [1,1,1]) = true) : g.den p q := lin p q g [y1,y2] [1,1,1] (.cons h1 (.cons h2 .nil)) e
theorem φ2 (p : List Int) (q : List Nat) (y1 y2 : Hy) (m : List Int) (h1 : y1.den p q) (h2 : y2.den p q) (e : chk [y1,y2] m = true) : False := linF p q [y1,y2] m (.cons h1 (.cons h2 .nil)) e
theorem β2 (p : List Int) (q : List Nat) (y1 y2 : Hy) (h1 : y1.den p q) (h2 : y2.den p q) (e : chk [y1,y2] [1,1] = true) : False := linF p q [y1,y2] [1,1] (.cons h1 (.cons h2 .nil)) e
theorem κ3 (p : List Int) (q : List Nat) (g y1 y2 y3 : Hy) (m : List Int) (h1 : y1.den p q) (h2 : y2.den p q) (h3 : y3.den p q) (e : (!g.isEq && chk (g.neg :: [y1,y2,y3]) m) = true) : g.den p q := lin p q g [y1,y2,y3] m (.cons h1 (.cons h2 (.cons h3 .nil))) e
theorem ω3 (p : List Int) (q : List Nat) (g y1 y2 y3 : Hy) (h1 : y1.den p q) (h2 : y2.den p q) (h3 : y3.den p q) (e : (!g.isEq && chk (g.neg :: [y1,y2,y3]) [1,1,1,1]) = true) : g.den p q := lin p q g [y1,y2,y3] [1,1,1,1] (.cons h1 (.cons h2 (.cons h3 .nil))) e
theorem φ3 (p : List Int) (q : List Nat) (y1 y2 y3 : Hy) (m : List Int) (h1 : y1.den p q) (h2 : y2.den p q) (h3 : y3.den p q) (e : chk [y1,y2,y3] m = true) : False := linF p q [y1,y2,y3] m (.cons h1 (.cons h2 (.cons h3 .nil))) e
theorem β3 (p : List Int) (q : List Nat) (y1 y2 y3 : Hy) (h1 : y1.den p q) (h2 : y2.den p q) (h3 : y3.den p q) (e : chk [y1,y2,y3] [1,1,1] = true) : False := linF p q [y1,y2,y3] [1,1,1] (.cons h1 (.cons h2 (.cons h3 .nil))) e
theorem κ4 (p : List Int) (q : List Nat) (g y1 y2 y3 y4 : Hy) (m : List Int) (h1 : y1.den p q) (h2 : y2.den p q) (h3 : y3.den p q) (h4 : y4.den p q) (e : (!g.isEq && chk (g.neg :: [y1,y2,y3,y4]) m) = true) : g.den p q := lin p q g [y1,y2,y3,y4] m (.cons h1 (.cons h2 (.cons h3 (.cons h4 .nil)))) e
theorem ω4 (p : List Int) (q : List Nat) (g y1 y2 y3 y4 : Hy) (h1 : y1.den p q) (h2 : y2.den p q) (h3 : y3.den p q) (h4 : y4.den p q) (e : (!g.isEq && chk (g.neg :: [y1,y2,y3,y4]) [1,1,1,1,1]) = true) : g.den p q := lin p q g [y1,y2,y3,y4] [1,1,1,1,1] (.cons h1 (.cons h2 (.cons h3 (.cons h4 .nil)))) e
theorem φ4 (p : List Int) (q : List Nat) (y1 y2 y3 y4 : Hy) (m : List Int) (h1 : y1.den p q) (h2 : y2.den p q) (h3 : y3.den p q) (h4 : y4.den p q) (e : chk [y1,y2,y3,y4] m = true) : False := linF p q [y1,y2,y3,y4] m (.cons h1 (.cons h2 (.cons h3 (.cons h4 .nil)))) e
theorem β4 (p : List Int) (q : List Nat) (y1 y2 y3 y4 : Hy) (h1 : y1.den p q) (h2 : y2.den p q) (h3 : y3.den p q) (h4 : y4.den p q) (e : chk [y1,y2,y3,y4] [1,1,1,1] = true) : False := linF p q [y1,y2,y3,y4] [1,1,1,1] (.cons h1 (.cons h2 (.cons h3 (.cons h4 .nil)))) e
theorem κ5 (p : List Int) (q : List Nat) (g y1 y2 y3 y4 y5 : Hy) (m : List Int) (h1 : y1.den p q) (h2 : y2.den p q) (h3 : y3.den p q) (h4 : y4.den p q) (h5 : y5.den p q) (e : (!g.isEq && chk (g.neg :: [y1,y2,y3,y4,y5]) m) = true) : g.den p q := lin p q g [y1,y2,y3,y4,y5] m (.cons h1 (.cons h2 (.cons h3 (.cons h4 (.cons h5 .nil))))) e
theorem ω5 (p : List Int) (q : List Nat) (g y1 y2 y3 y4 y5 : Hy) (h1 : y1.den p q) (h2 : y2.den p q) (h3 : y3.den p q) (h4 : y4.den p q) (h5 : y5.den p q) (e : (!g.isEq && chk (g.neg :: [y1,y2,y3,y4,y5]) [1,1,1,1,1,1]) = true) : g.den p q := lin p q g [y1,y2,y3,y4,y5] [1,1,1,1,1,1] (.cons h1 (.cons h2 (.cons h3 (.cons h4 (.cons h5 .nil))))) e
theorem φ5 (p : List Int) (q : List Nat) (y1 y2 y3 y4 y5 : Hy) (m : List Int) (h1 : y1.den p q) (h2 : y2.den p q) (h3 : y3.den p q) (h4 : y4.den p q) (h5 : y5.den p q) (e : chk [y1,y2,y3,y4,y5] m = true) : False := linF p q [y1,y2,y3,y4,y5] m (.cons h1 (.cons h2 (.cons h3 (.cons h4 (.cons h5 .nil))))) e
theorem β5 (p : List Int) (q : List Nat) (y1 y2 y3 y4 y5 : Hy) (h1 : y1.den p q) (h2 : y2.den p q) (h3 : y3.den p q) (h4 : y4.den p q) (h5 : y5.den p q) (e : chk [y1,y2,y3,y4,y5] [1,1,1,1,1] = true) : False := linF p q [y1,y2,y3,y4,y5] [1,1,1,1,1] (.cons h1 (.cons h2 (.cons h3 (.cons h4 (.cons h5 .nil))))) e
theorem κ6 (p : List Int) (q : List Nat) (g y1 y2 y3 y4 y5 y6 : Hy) (m : List Int) (h1 : y1.den p q) (h2 : y2.den p q) (h3 : y3.den p q) (h4 : y4.den p q) (h5 : y5.den p q) (h6 : y6.den p q) (e : (!g.isEq && chk (g.neg :: [y1,y2,y3,y4,y5,y6]) m) = true) : g.den p q := lin p q g [y1,y2,y3,y4,y5,y6] m (.cons h1 (.cons h2 (.cons h3 (.cons h4 (.cons h5 (.cons h6 .nil)))))) e
theorem ω6 (p : List Int) (q : List Nat) (g y1 y2 y3 y4 y5 y6 : Hy) (h1 : y1.den p q) (h2 : y2.den p q) (h3 : y3.den p q) (h4 : y4.den p q) (h5 : y5.den p q) (h6 : y6.den p q) (e : (!g.isEq && chk (g.neg :: [y1,y2,y3,y4,y5,y6]) [1,1,1,1,1,1,1]) = true) : g.den p q := lin p q g [y1,y2,y3,y4,y5,y6] [1,1,1,1,1,1,1] (.cons h1 (.cons h2 (.cons h3 (.cons h4 (.cons h5 (.cons h6 .nil)))))) e
theorem φ6 (p : List Int) (q : List Nat) (y1 y2 y3 y4 y5 y6 : Hy) (m : List Int) (h1 : y1.den p q) (h2 : y2.den p q) (h3 : y3.den p q) (h4 : y4.den p q) (h5 : y5.den p q) (h6 : y6.den p q) (e : chk [y1,y2,y3,y4,y5,y6] m = true) : False := linF p q [y1,y2,y3,y4,y5,y6] m (.cons h1 (.cons h2 (.cons h3 (.cons h4 (.cons h5 (.cons h6 .nil)))))) e
theorem β6 (p : List Int) (q : List Nat) (y1 y2 y3 y4 y5 y6 : Hy) (h1 : y1.den p q) (h2 : y2.den p q) (h3 : y3.den p q) (h4 : y4.den p q) (h5 : y5.den p q) (h6 : y6.den p q) (e : chk [y1,y2,y3,y4,y5,y6] [1,1,1,1,1,1] = true) : False := linF p q [y1,y2,y3,y4,y5,y6] [1,1,1,1,1,1] (.cons h1 (.cons h2 (.cons h3 (.cons h4 (.cons h5 (.cons h6 .nil)))))) e
theorem κ7 (p : List Int) (q : List Nat) (g y1 y2 y3 y4 y5 y6 y7 : Hy) (m : List Int) (h1 : y1.den p q) (h2 : y2.den p q) (h3 : y3.den p q) (h4 : y4.den p q) (h5 : y5.den p q) (h6 : y6.den p q) (h7 : y7.den p q) (e : (!g.isEq && chk (g.neg :: [y1,y2,y3,y4,y5,y6,y7]) m) = true) : g.den p q := lin p q g [y1,y2,y3,y4,y5,y6,y7] m (.cons h1 (.cons h2 (.cons h3 (.cons h4 (.cons h5 (.cons h6 (.cons h7 .nil))))))) e
theorem ω7 (p : List Int) (q : List Nat) (g y1 y2 y3 y4 y5 y6 y7 : Hy) (h1 : y1.den p q) (h2 : y2.den p q) (h3 : y3.den p q) (h4 : y4.den p q) (h5 : y5.den p q) (h6 : y6.den p q) (h7 : y7.den p q) (e : (!g.isEq && chk (g.neg :: [y1,y2,y3,y4,y5,y6,y7]) [1,1,1,1,1,1,1,1]) = true) : g.den p q := lin p q g [y1,y2,y3,y4,y5,y6,y7] [1,1,1,1,1,1,1,1] (.cons h1 (.cons h2 (.cons h3 (.cons h4 (.cons h5 (.cons h6 (.cons h7 .nil))))))) e
theorem φ7 (p : List Int) (q : List Nat) (y1 y2 y3 y4 y5 y6 y7 : Hy) (m : List Int) (h1 : y1.den p q) (h2 : y2.den p q) (h3 : y3.den p q) (h4 : y4.den p q) (h5 : y5.den p q) (h6 : y6.den p q) (h7 : y7.den p q) (e : chk [y1,y2,y3,y4,y5,y6,y7] m = true) : False := linF p q [y1,y2,y3,y4,y5,y6,y7] m (.cons h1 (.cons h2 (.cons h3 (.cons h4 (.cons h5 (.cons h6 (.cons h7 .nil))))))) e
theorem β7 (p : List Int) (q : List Nat) (y1 y2 y3 y4 y5 y6 y7 : Hy) (h1 : y1.den p q) (h2 : y2.den p q) (h3 : y3.den p q) (h4 : y4.den p q) (h5 : y5.den p q) (h6 : y6.den p q) (h7 : y7.den p q) (e : chk [y1,y2,y3,y4,y5,y6,y7] [1,1,1,1,1,1,1] = true) : False := linF p q [y1,y2,y3,y4,y5,y6,y7] [1,1,1,1,1,1,1] (.cons h1 (.cons h2 (.cons h3 (.cons h4 (.cons h5 (.cons h6 (.cons h7 .nil))))))) e
theorem κ0 (p : List Int) (q : List Nat) (g : Hy) (m : List Int) (e : (!g.isEq && chk (g.neg :: []) m) = true) : g.den p q := lin p q g [] m .nil e
noncomputable def Hy.dir (k : Kd) (h : Hy) : Hy := @Hy.rec (fun _ => Hy) (fun _ x y => .I k x y) (fun _ x y => .N k x y) h
theorem linE (p : List Int) (q : List Nat) (g : Hy) (l : List Hy) (m n : List Int) (H : HL p q l) (e : (g.isEq && (chk (g.dir .lt :: l) m && chk (g.dir .nle :: l) n)) = true) : g.den p q := by
 have e := Bool.and_eq_true_iff.mp e
 have e2 := Bool.and_eq_true_iff.mp e.2
 have a : (g.dir .lt).den p q → False := fun h => linF p q (g.dir .lt :: l) m (.cons h H) e2.1
 have b : (g.dir .nle).den p q → False := fun h => linF p q (g.dir .nle :: l) n (.cons h H) e2.2
 cases g with
 | I k x y => cases k with
  | eq => exact Int.le_antisymm (Classical.not_not.mp b) (Int.not_lt.mp a)
  | _ => cases e.1
 | N k x y => cases k with
  | eq => exact Nat.le_antisymm (Classical.not_not.mp b) (Nat.not_lt.mp a)
  | _ => cases e.1
theorem η0 (p : List Int) (q : List Nat) (g : Hy) (m n : List Int) (e : (g.isEq && (chk (g.dir .lt :: []) m && chk (g.dir .nle :: []) n)) = true) : g.den p q := linE p q g [] m n .nil e
theorem η1 (p : List Int) (q : List Nat) (g y1 : Hy) (m n : List Int) (h1 : y1.den p q) (e : (g.isEq && (chk (g.dir .lt :: [y1]) m && chk (g.dir .nle :: [y1]) n)) = true) : g.den p q := linE p q g [y1] m n (.cons h1 .nil) e
theorem η2 (p : List Int) (q : List Nat) (g y1 y2 : Hy) (m n : List Int) (h1 : y1.den p q) (h2 : y2.den p q) (e : (g.isEq && (chk (g.dir .lt :: [y1,y2]) m && chk (g.dir .nle :: [y1,y2]) n)) = true) : g.den p q := linE p q g [y1,y2] m n (.cons h1 (.cons h2 .nil)) e
theorem η3 (p : List Int) (q : List Nat) (g y1 y2 y3 : Hy) (m n : List Int) (h1 : y1.den p q) (h2 : y2.den p q) (h3 : y3.den p q) (e : (g.isEq && (chk (g.dir .lt :: [y1,y2,y3]) m && chk (g.dir .nle :: [y1,y2,y3]) n)) = true) : g.den p q := linE p q g [y1,y2,y3] m n (.cons h1 (.cons h2 (.cons h3 .nil))) e
theorem η4 (p : List Int) (q : List Nat) (g y1 y2 y3 y4 : Hy) (m n : List Int) (h1 : y1.den p q) (h2 : y2.den p q) (h3 : y3.den p q) (h4 : y4.den p q) (e : (g.isEq && (chk (g.dir .lt :: [y1,y2,y3,y4]) m && chk (g.dir .nle :: [y1,y2,y3,y4]) n)) = true) : g.den p q := linE p q g [y1,y2,y3,y4] m n (.cons h1 (.cons h2 (.cons h3 (.cons h4 .nil)))) e
theorem η5 (p : List Int) (q : List Nat) (g y1 y2 y3 y4 y5 : Hy) (m n : List Int) (h1 : y1.den p q) (h2 : y2.den p q) (h3 : y3.den p q) (h4 : y4.den p q) (h5 : y5.den p q) (e : (g.isEq && (chk (g.dir .lt :: [y1,y2,y3,y4,y5]) m && chk (g.dir .nle :: [y1,y2,y3,y4,y5]) n)) = true) : g.den p q := linE p q g [y1,y2,y3,y4,y5] m n (.cons h1 (.cons h2 (.cons h3 (.cons h4 (.cons h5 .nil))))) e
theorem δz (n : Nat) : (0 : Int) ≤ (n : Int) := Int.natCast_nonneg n
theorem δm {a k m : Int} (e : (decide (0 < m) && decide (m ≤ k)) = true) : a % m < k := by
 have h := (Bool.and_eq_true _ _).mp e
 exact Int.lt_of_lt_of_le (Int.emod_lt_of_pos a (of_decide_eq_true h.1)) (of_decide_eq_true h.2)
theorem δn {a k m : Int} (e : (decide (0 < m) && decide (k ≤ 0)) = true) : k ≤ a % m := by
 have h := (Bool.and_eq_true _ _).mp e
 exact Int.le_trans (of_decide_eq_true h.2) (Int.emod_nonneg a (Int.ne_of_gt (of_decide_eq_true h.1)))
theorem δc {a k m : Nat} (h : a ≤ m) (e : Nat.ble m k = true) : a ≤ k := Nat.le_trans h (Nat.le_of_ble_eq_true e)
theorem δa {a k m n l : Nat} (h : a + m < n) (e : Nat.ble (k + n) (m + l) = true) : a + k < l := ω2 [] [_,_,_,_,_] (.Lt (.a ν0 ν1) ν4) (.Lt (.a ν0 ν2) ν3) (.Le (.a ν1 ν3) (.a ν2 ν4)) h (Nat.le_of_ble_eq_true e) rfl
theorem δb {a j k m n l : Nat} (h : a + m < n) (e : Nat.ble (j + k + n) (m + l) = true) : a + j + k < l := Nat.add_assoc a j k ▸ δa h e
theorem δd {a k n l : Nat} (h : a < n) (e : Nat.ble (k + n) l = true) : a + k < l := ω2 [] [_,_,_,_] (.Lt (.a ν0 ν1) ν3) (.Lt ν0 ν2) (.Le (.a ν1 ν2) ν3) h (Nat.le_of_ble_eq_true e) rfl
theorem δi {a k m : Int} (h : a < m) (e : decide (m ≤ k) = true) : a < k := Int.lt_of_lt_of_le h (of_decide_eq_true e)
theorem δj {a k m : Int} (h : m ≤ a) (e : decide (k ≤ m) = true) : k ≤ a := Int.le_trans (of_decide_eq_true e) h
theorem δk {a k m : Int} (h : a ≤ m) (e : decide (m ≤ k) = true) : a ≤ k := Int.le_trans h (of_decide_eq_true e)
theorem δl {a k m : Int} (h : m ≤ a) (e : decide (k < m) = true) : k < a := Int.lt_of_lt_of_le (of_decide_eq_true e) h
theorem δo {a k m : Int} (h : a ≤ m) (e : decide (m < k) = true) : a < k := Int.lt_of_le_of_lt h (of_decide_eq_true e)
theorem δp {a k m : Int} (h : a < m) (e : decide (m ≤ k + 1) = true) : a ≤ k := Int.le_of_lt_add_one (δi h e)
theorem δq {x l m : Int} {k : Nat} (h : x < m) (g : l ≤ x) (e : (decide (0 ≤ l) && decide (m ≤ (k : Int))) = true) : x.natAbs < k := by
 have e := (Bool.and_eq_true _ _).mp e
 have a := of_decide_eq_true e.1
 have b := of_decide_eq_true e.2
 exact ω3 [_,_] [_,_] (.Lt ν0 ν1) (.lt ξ0 ξ1) (.le ξ1 (.c ν1)) (.eq (.c ν0) ξ0) h b (Int.natAbs_of_nonneg (Int.le_trans a g)) rfl
theorem δqq {x m : Int} {k : Nat} (e : (decide (0 < m) && decide (m ≤ (k : Int))) = true) : (x % m).natAbs < k :=
 δq (l := 0) (δm e) (δn ((Bool.and_eq_true _ _).mpr ⟨((Bool.and_eq_true _ _).mp e).1,rfl⟩)) ((Bool.and_eq_true _ _).mpr ⟨rfl,by exact decide_eq_true (Int.le_refl _)⟩)
theorem δrr {x m : Int} {k : Nat} (e : (decide (0 < m) && decide (m ≤ (k : Int) + 1)) = true) : (x % m).toNat ≤ k := by
 have e' := (Bool.and_eq_true _ _).mp e
 have h : x % m < (k : Int) + 1 := δm e
 exact ω2 [_] [_,_] (.Le ν0 ν1) (.lt ξ0 (.a (.c ν1) (.n 1))) (.eq (.c ν0) ξ0) h (Int.toNat_of_nonneg (Int.emod_nonneg x (Int.ne_of_gt (of_decide_eq_true e'.1)))) rfl
theorem δA {a b c m k : Nat} (h : (0 : Int) ≤ (b : Int) - 1 + (c : Int) * -1) (g : a ≤ c) (z : b ≤ m) (e : Nat.ble m (k + 1) = true) : a ≤ k := ω4 [] [_,_,_,_,_] (.Le ν0 ν4) (.le (.n 0) (.a (.s (.c ν1) (.n 1)) (.r (.c ν2) (-1)))) (.Le ν0 ν2) (.Le ν1 ν3) (.Le ν3 (.a ν4 (.n 1))) h g z (Nat.le_of_ble_eq_true e) rfl
theorem δB {a k m j : Int} (e : (decide (0 < m) && decide (k ≤ j)) = true) : k ≤ j + a % m := by
 have h := (Bool.and_eq_true _ _).mp e
 exact Int.le_trans (of_decide_eq_true h.2) (Int.le_add_of_nonneg_right (Int.emod_nonneg a (Int.ne_of_gt (of_decide_eq_true h.1))))
theorem δC {a k m j : Int} (e : (decide (0 < m) && decide (j + m ≤ k)) = true) : j + a % m < k := by
 have h := (Bool.and_eq_true _ _).mp e
 exact Int.lt_of_lt_of_le (Int.add_lt_add_left (Int.emod_lt_of_pos a (of_decide_eq_true h.1)) j) (of_decide_eq_true h.2)
theorem δD {a b : Nat} (h : ¬ b ≤ a) : a ≤ b := Nat.le_of_lt (Nat.not_le.mp h)
theorem δE {a b k : Int} (h : b < a) (e : decide (k ≤ 1) = true) : k ≤ a - b := Int.le_trans (of_decide_eq_true e) (Int.sub_pos_of_lt h)
theorem δF {a k m : Int} (h : m ≤ a) (g : a = k) (e : decide (k < m) = true) : False := Int.not_lt.mpr h (g ▸ of_decide_eq_true e)
theorem δG {a b k : Nat} (h : a ≤ b) : a ≤ b + k := Nat.le_trans h (Nat.le_add_right b k)
theorem δH {a k m : Int} (h : a = k) (g : a = m) (e : decide (k = m) = false) : False := of_decide_eq_false e (h.symm.trans g)
theorem δI {a k m : Int} (h : a = k) (g : ¬ m < a) (e : decide (m < k) = true) : False := g (h ▸ of_decide_eq_true e)
theorem δJ {a k m j : Int} (h : m ≤ a) (e : decide (k ≤ m + j) = true) : k ≤ a + j := Int.le_trans (of_decide_eq_true e) (Int.add_le_add_right h j)
theorem δK {a b m k : Nat} (h : a + (b + 1) * 2000 ≤ m) (e : Nat.ble m (k + 2000) = true) : a ≤ k := ω2 [] [_,_,_,_] (.Le ν0 ν3) (.Le (.a ν0 (.r (.a ν1 (.n 1)) 2000)) ν2) (.Le ν2 (.a ν3 (.n 2000))) h (Nat.le_of_ble_eq_true e) rfl
theorem δL {a b n k : Nat} (h : a ≤ 10 * b) (g : b < n) (e : Nat.ble (10 * n) (k + 10) = true) : a ≤ k := κ3 [] [_,_,_,_] (.Le ν0 ν3) (.Le ν0 (.m 10 ν1)) (.Lt ν1 ν2) (.Le (.m 10 ν2) (.a ν3 (.n 10))) [1,1,10,1] h g (Nat.le_of_ble_eq_true e) rfl
theorem δM {a b c j n m k : Nat} (h : a ≤ b + j) (g : b + 3 * (c + n) ≤ m) (e : Nat.ble (m + j) (k + 3 * n) = true) : a ≤ k := ω3 [] [_,_,_,_,_,_,_] (.Le ν0 ν6) (.Le ν0 (.a ν1 ν3)) (.Le (.a ν1 (.m 3 (.a ν2 ν4))) ν5) (.Le (.a ν5 ν3) (.a ν6 (.m 3 ν4))) h g (Nat.le_of_ble_eq_true e) rfl
theorem δN {a m k : Nat} (h : a = m) (e : Nat.ble m k = true) : a ≤ k := h ▸ Nat.le_of_ble_eq_true e
theorem δO {a : Nat} : (0 : Int) ≤ 1 + (1 + (a : Int) * 1) := κ0 [] [_] (.le (.n 0) (.a (.n 1) (.a (.n 1) (.r (.c ν0) 1)))) [1] rfl
end
end Mine
namespace Mine
noncomputable def badIds : List String := Builtin.Bytes.decodersThatHold ++ ["bytearray.__contains__","bytearray.__mod__","bytearray.__rmod__","_struct.pack_into.held","bytearray.find.held"]
noncomputable def fine : Code → Bool
 | .builtin id _ => !badIds.contains id
 | _ => true
noncomputable def Clean (Γ : PySem.Ctx) : Prop := fine Γ.code = true ∧ ∀ x ∈ Γ.below,fine x.1 = true
theorem Clean.enter {Γ : PySem.Ctx} (h : Clean Γ) {c : Code} (hc : fine c = true) (hd : Option Value) (p : Pos) : Clean (Γ.enter c hd p) :=
 ⟨hc,fun x hx => by
  rcases List.mem_cons.mp hx with rfl | hx
  ·exact h.1
  ·exact h.2 x hx⟩
theorem Clean.goto {Γ : PySem.Ctx} (h : Clean Γ) {c : Code} (hc : fine c = true) : Clean (Γ.goto c) := ⟨hc,h.2⟩
noncomputable def wpS {α : Type} (b : Bool) (M : Model) (A : Around) (t : Sem α) (Q : α → Shared → Prop) (s : Shared) : Prop :=
 ∀ Γ p,Γ.In A → (b = true → Clean Γ) → Sem.wp M Γ t (fun a _ s' => Q a s') (fun _ _ _ => False) p s
noncomputable def codeS (b : Bool) (M : Model) (A : Around) (c : Code) (R : Result → Shared → Prop) (s : Shared) : Prop :=
 ∀ Γ p,Γ.code = c → Γ.Below A → (b = true → Clean Γ) → wpCode M Γ R p s
section
variable {α β : Type} {b : Bool} {M : Model} {A : Around} {s : Shared}
theorem ϰj {t : Sem α} {Q : α → Shared → Prop} {E : Value → Shared → Prop} (h : wpAny M A t Q E s) (hE : ∀ e s',E e s' → False := by exact fun _ _ h => h) : wpS b M A t Q s := fun Γ p hΓ _ =>
 Sem.wp_mono M Γ t (fun _ _ _ h' => h') (fun e _ s' h' => hE e s' h') p s (h Γ p hΓ)
theorem to_any {t : Sem α} {Q : α → Shared → Prop} (h : wpS false M A t Q s) : wpAny M A t Q (fun _ _ => False) s := fun Γ p hΓ => h Γ p hΓ (fun e => by cases e)
theorem code_of_any {c : Code} {R : Result → Shared → Prop} (h : codeAny M A c R s) : codeS b M A c R s := fun Γ p hc hΓ _ => h Γ p hc hΓ
theorem code_to_any {c : Code} {R : Result → Shared → Prop} (h : codeS false M A c R s) : codeAny M A c R s := fun Γ p hc hΓ => h Γ p hc hΓ (fun e => by cases e)
theorem ϰn {a : α} {Q : α → Shared → Prop} (h : Q a s) : wpS b M A (pure a) Q s := fun _ _ _ _ => h
theorem ϰk {t : Sem α} {Q Q' : α → Shared → Prop} (h : wpS b M A t Q s) (hQ : ∀ a s,Q a s → Q' a s) : wpS b M A t Q' s := fun Γ p hΓ hb =>
 Sem.wp_mono M Γ t (fun a _ s' => hQ a s') (fun _ _ _ h' => h') p s (h Γ p hΓ hb)
theorem ϰb {m : Sem α} {f : α → Sem β} {Q : β → Shared → Prop} (h : wpS b M A m (fun a s' => wpS b M A (f a) Q s') s) : wpS b M A (m >>= f) Q s := fun Γ p hΓ hb => by
 rw [Sem.wp_bind']
 exact Sem.wp_mono M Γ m (fun a p' s' h' => h' Γ p' hΓ hb) (fun _ _ _ h' => h') p s (h Γ p hΓ hb)
theorem ϰo {vs : List Value} {m : Sem α} {Q : α → Shared → Prop} (h : wpS b M A m Q s) : wpS b M A (holding vs m) Q s := fun Γ p hΓ hb => by rw [Sem.wp_holding];exact h Γ p hΓ hb
theorem ϰp {pos : Pos} {Q : Unit → Shared → Prop} (h : Q () s) : wpS b M A (standAt pos) Q s := fun _ _ _ _ => h
theorem wpS_point {Q : Unit → Shared → Prop} (h : Q () s) : wpS b M A point Q s := fun _ _ _ _ => h
theorem ϰas {m : Sem α} {k : Value → Sem Unit} {Q : α → Shared → Prop} (h : wpS b M A m Q s) : wpS b M A (m.onRaise k) Q s := fun Γ p hΓ hb => by
 rw [Sem.wp_onRaise]
 exact Sem.wp_mono M Γ m (fun _ _ _ h' => h') (fun _ _ _ h' => h'.elim) p s (h Γ p hΓ hb)
theorem wpS_keep {vs : List Value} {m : Sem α} {Q : α → Shared → Prop} (h : wpS b M A m Q s) : wpS b M A (m.keep vs) Q s := fun Γ p hΓ hb => by rw [Sem.wp_keep];exact h Γ p hΓ hb
theorem ϱZ {vs : List Value} {m : Sem Value} {Q : Value → Shared → Prop} (h : wpS b M A m Q s) : wpS b M A (operate vs m) Q s := fun Γ p hΓ hb => by rw [Sem.wp_operate];exact h Γ p hΓ hb
theorem ϰbc {vs keep : List Value} {Q : Unit → Shared → Prop} (h : Q () s) : wpS b M A (release vs keep) Q s := ϰj (wpAny_release (E := fun _ _ => False) h)
theorem codeS_mono {c : Code} {R R' : Result → Shared → Prop} (h : codeS b M A c R s) (hR : ∀ r s,R r s → R' r s) : codeS b M A c R' s := fun Γ p hc hΓ hb => wpCode_mono hR (h Γ p hc hΓ hb)
theorem wpS_run {c : Code} {Q : Flow → Shared → Prop} (hf : fine c = true) (hc : codeS b M A c (fun r s' => match r with | .ok f => Q f s' | .error _ => False) s) : wpS b M A (run c none) Q s := fun Γ p hΓ hb => by
 rw [Sem.wp_run]
 have hb' : b = true → Clean (Γ.enter c none p) := fun e => (hb e).enter hf none p
 have h0 := hc _ p rfl (hΓ.enter c none p (by intro x;cases x)) hb'
 refine wpCode_mono (fun r s' h => ?_) h0
 cases r <;> exact h
theorem ϰaO {f : Value} {pos : List Value} {kw : List (Str × Value)} {Q : Value → Shared → Prop} (hc : codeS b M A (.call f ⟨pos,kw⟩) (fun r s' => match r with | .ok (.ret v) => Q v s' | _ => False) s) :
  wpS b M A (call f pos kw) Q s := fun Γ p hΓ hb => by
 unfold PySem.call
 rw [Sem.wp_runValue]
 have hb' : b = true → Clean (Γ.enter (.call f ⟨pos,kw⟩) none p) := fun e => (hb e).enter (c := .call f ⟨pos,kw⟩) rfl none p
 have h0 := hc _ p rfl (hΓ.enter _ none p (by intro x;cases x)) hb'
 refine wpCode_mono (fun r s' h => ?_) h0
 cases r with
 | ok f => cases f <;> exact h
 | error e => exact h
theorem ϰV {c : Code} {R : Result → Shared → Prop}
  (h : wpS b M (A.under c) (M.den c) (fun fin s' => match fin with | .done f => R (.ok f) s' | .again c' => c'.quiet = true ∧ fine c' = true ∧ codeS b M A c' R s') s) : codeS b M A c R s := fun Γ p hc hΓ hb => by
 rw [wpCode_iff_wp,hc]
 refine Sem.wp_mono M Γ _ (fun fin p' s' h' => ?_) (fun _ _ _ h' => h'.elim) p s (h Γ p (hc ▸ hΓ.in) hb)
 cases fin with
 | done f => exact h'
 | again c' => exact ⟨h'.1,h'.2.2 (Γ.goto c') p' rfl (hΓ.goto c') (fun e => (hb e).goto h'.2.1)⟩
theorem codeS_loop' {c : Code} {R : Result → Shared → Prop} (hq : c.quiet = true) (hf : fine c = true) (I : Nat → Shared → Prop)
  (turn : ∀ n s,I n s → wpS b M (A.under c) (M.den c)
   (fun fin s' => match fin with
    | .done f => R (.ok f) s'
    | .again c' => (c' = c ∧ ∃ m,m < n ∧ I m s') ∨ (c'.quiet = true ∧ fine c' = true ∧ codeS b M A c' R s')) s)
  (n : Nat) (h : I n s) : codeS b M A c R s := by
 induction n using Nat.strongRecOn generalizing s with
 | ind n ih =>
  refine ϰV (ϰk (turn n s h) fun fin s' hf' => ?_)
  cases fin with
  | done f => exact hf'
  | again c' =>
   rcases hf' with ⟨rfl,m,hm,hI⟩ | hf'
   ·exact ⟨hq,hf,ih m hm hI⟩
   ·exact hf'
end
section
variable {b : Bool} {prog : Program} {w : World} {A : Around} {s : Shared} {env : Env}
theorem wpS_noted {α : Type} {m : Sem α} {Q : α → Shared → Prop} (h : wpS b (model prog w) A m Q s) : wpS b (model prog w) A (m.onRaise fun x => do noteFrame x env;theTreesLotGoes x) Q s := ϰas h
theorem codeS_block {stmts : List Stmt} {R : Result → Shared → Prop} (h : wpS b (model prog w) A (execs stmts env) (fun f s' => R (.ok f) s') s) : codeS b (model prog w) A (.block stmts env) R s := by
 refine ϰV ?_
 show wpS _ _ _ (do return Fin.done (← (execs stmts env).onRaise (fun x => do noteFrame x env;theTreesLotGoes x))) _ s
 exact ϰb (wpS_noted (ϰk h fun f s' h' => ϰn h'))
theorem codeS_whileLoop {R : Result → Shared → Prop} {test body orelse} (I : Nat → Shared → Prop)
  (turn : ∀ n s,I n s → wpS b (model prog w) A (isTrue test env (eval test env)) (fun v s₂ =>
    if v then wpS b (model prog w) A (execs body env) (fun f s₃ => match f with
      | .next | .cont => ∃ m,m < n ∧ I m s₃
      | .brk => R (.ok .next) s₃
      | .ret v => R (.ok (.ret v)) s₃) s₂
    else wpS b (model prog w) A (execs orelse env) (fun f s₃ => R (.ok f) s₃) s₂) s)
  (n : Nat) (h : I n s) : codeS b (model prog w) A (.whileLoop test body orelse env) R s := by
 refine codeS_loop' rfl rfl I (fun n s hI => ?_) n h
 show wpS _ _ A ((whileTurn test body orelse env).onRaise (fun x => do noteFrame x env;theTreesLotGoes x)) _ s
 refine wpS_noted ?_
 unfold whileTurn
 refine ϰb (ϰk (turn n s hI) fun v s₂ h₂ => ?_)
 cases v with
 | false =>
  exact ϰb (ϰk (show wpS b _ A (execs orelse env) _ s₂ from h₂) fun f s₃ h₃ => ϰn h₃)
 | true =>
  refine ϰb (ϰk (show wpS b _ A (execs body env) _ s₂ from h₂) fun f s₃ h₃ => ?_)
  cases f with
  | next => exact ϰn (.inl ⟨rfl,h₃⟩)
  | cont => exact ϰn (.inl ⟨rfl,h₃⟩)
  | brk => exact ϰn h₃
  | ret v => exact ϰn h₃
theorem codeS_forLoop {R : Result → Shared → Prop} {target it body orelse} (I : Nat → Shared → Prop)
  (turn : ∀ n s,I n s → wpS b (model prog w) A (pyNext it) (fun r s₁ => match r with
   | none => wpS b (model prog w) A (execs orelse env) (fun f s₃ => R (.ok f) s₃) s₁
   | some v => wpS b (model prog w) A (letOwnedTupleGo target it v) (fun _ s₁' =>
     wpS b (model prog w) A (assign target env v) (fun _ s₂ => wpS b (model prog w) A (execs body env) (fun f s₃ => match f with
      | .next | .cont => ∃ m,m < n ∧ I m s₃
      | .brk => R (.ok .next) s₃
      | .ret v => R (.ok (.ret v)) s₃) s₂) s₁') s₁) s)
  (n : Nat) (h : I n s) : codeS b (model prog w) A (.forLoop target it body orelse env) R s := by
 refine codeS_loop' rfl rfl I (fun n s hI => ?_) n h
 show wpS _ _ A ((forTurn target it body orelse env).onRaise (fun x => do noteFrame x env;theTreesLotGoes x)) _ s
 refine wpS_noted ?_
 unfold forTurn
 refine ϰb (ϰp (ϰb (ϰas (ϰk (turn n s hI) fun r s₁ h₁ => ?_))))
 cases r with
 | none => exact ϰn (.inr ⟨rfl,rfl,codeS_block h₁⟩)
 | some v =>
  refine ϰb (ϰk h₁ fun _ s₁' h₁' => ?_)
  refine ϰb (ϰk h₁' fun _ s₂ h₂ => ϰb (ϰk h₂ fun f s₃ h₃ => ?_))
  cases f with
  | next => exact ϰn (.inl ⟨rfl,h₃⟩)
  | cont => exact ϰn (.inl ⟨rfl,h₃⟩)
  | brk => exact ϰn h₃
  | ret v => exact ϰn h₃
theorem codeS_func {R : Result → Shared → Prop} {body}
  (h : wpS b (model prog w) (A.deeper env) (execs body env) (fun f s' => R (.ok (.ret (match f with | .ret v => v | _ => .none))) s') s) : codeS b (model prog w) A (.func body env) R s := by
 refine ϰV ?_
 show wpS _ _ (A.deeper env) (do point;match ← (execs body env).onRaise (leaving env) with | .ret v => ret v | _ => ret .none) _ s
 refine ϰb (wpS_point (ϰb (ϰas (ϰk h fun f s' h' => ?_))))
 cases f <;> exact ϰn h'
theorem ϱl {R : Result → Shared → Prop} {a : Addr} {args : Args} {o : Obj} {fd : FuncData} {body : List Stmt} (hroom : A.depth < recursionLimit)
  (ho : s.heap.get? a = some o)
  (hd' : o.data = .func fd) (hco : fd.scope.isCoroutine = false) (hgen : fd.scope.isGenerator = false) (hbody : fd.body = .stmts body) (hcd : s.heap.CodeRec fd.code fd.qualname)
  (h : wpAny (model prog w) A.in1 (bindArgs fd args) (fun binds s₁ =>
   wpAny (model prog w) A.in1 (newFunctionEnv fd.scope fd.globals fd.closure binds (fd.qualname ++ ".<locals>.") (some a) fd.code none fd.builtins)
    (fun env s₂ => s₂.heap.NoLimit ∧ codeS b (model prog w) A (.func body env) R s₂) (fun _ _ => False) s₁) (fun _ _ => False) s) :
  codeS b (model prog w) A (.call (.ref a) args) R s := by
 refine ϰV ?_
 show wpS _ _ A.in1 (callAny (.ref a) args) _ s
 unfold callAny
 refine ϰb (ϰj (wpAny_load (E := fun _ _ => False) ho ?_))
 obtain ⟨c,oc,vs,tq,hc,hoc,hdc,hq⟩ := hcd
 obtain ⟨_,_,od,_⟩ := o
 obtain rfl : od = _ := hd'
 show wpS _ _ A.in1 (callFunction a fd args) _ s
 unfold callFunction
 rw [hco,hgen,hbody,hc]
 rw [hc] at h
 refine ϰb (m := field (.ref c) 1) (ϰj (wpAny_field (E := fun _ _ => False) hoc hdc hq ?_))
 refine ϰb (ϰn ?_)
 exact ϰb (ϰk (ϰj h) fun binds s₁ h₁ => ϰb (ϰk (ϰj h₁) fun env s₂ h₂ => ϰb (ϰj (wpAny_enterFrame (E := fun _ _ => False) h₂.1 hroom
  (ϰn (And.intro rfl (And.intro rfl h₂.2)))))))
end
end Mine
namespace Mine
section
variable {b : Bool} {M : Model} {A : Around} {s : Shared} {env : Env}
theorem S_BinOp {l op r pos} {Q : Value → Shared → Prop}
  (h : wpS b M A (eval l env) (fun x s₁ => wpS b M A (eval r env) (fun y s₂ => wpS b M A (binaryOp op x y) Q s₂) s₁) s) : wpS b M A (eval (.BinOp l op r pos) env) Q s := by
 rw [eval_BinOp]
 exact ϰb (ϰk h fun x s₁ h₁ => ϰb (ϰo (ϰk h₁ fun y s₂ h₂ => ϰb (ϰp (ϱZ h₂)))))
theorem S_Compare1 {l op r pos} {Q : Value → Shared → Prop}
  (h : wpS b M A (eval l env) (fun x s₁ => wpS b M A (eval r env) (fun y s₂ => wpS b M A (compareOp op x y) Q s₂) s₁) s)
  (hm : behindInMarks op r = false) : wpS b M A (eval (.Compare l [op] [r] pos) env) Q s := by
 rw [eval_Compare1,markedBehindIn_of_false hm]
 exact ϰb (ϰk h fun x s₁ h₁ => ϰb (ϰo (ϰk h₁ fun y s₂ h₂ => ϰb (ϰp (ϱZ h₂)))))
theorem S_isTrue_Compare1 {l op r pos whole} {Q : Bool → Shared → Prop}
  (h : wpS b M A (eval l env) (fun x s₁ => wpS b M A (eval r env) (fun y s₂ => wpS b M A (compareOp op x y) (fun c s₃ => wpS b M A (truthy c) Q s₃) s₂) s₁) s)
  (hm : behindInMarks op r = false) : wpS b M A (isTrue (.Compare l [op] [r] pos) env whole) Q s := by
 rw [isTrue_Compare1,markedBehindIn_of_false hm]
 refine ϰb (ϰk h fun x s₁ h₁ => ϰb (ϰo (ϰk h₁ fun y s₂ h₂ => ϰb (ϰp (ϰb (ϱZ (ϰk h₂ fun c s₃ h₃ => ?_)))))))
 first | exact ϰb (ϰp (ϰo h₃)) | exact ϰo h₃ | exact h₃
theorem S_isTrue_value {e : Expr} {whole : Sem Value} {Q : Bool → Shared → Prop} (h : wpS b M A whole (fun v s₁ => wpS b M A (truthy v) Q s₁) s)
  (he : isTrue e env whole = (do let v ← whole;standAt e.pos;holding [v] (truthy v))) : wpS b M A (isTrue e env whole) Q s := by
 rw [he]
 exact ϰb (ϰk h fun v s₁ h₁ => ϰb (ϰp (ϰo h₁)))
theorem S_isTrue_not {x pos whole} {Q : Bool → Shared → Prop} (h : wpS b M A (isTrue x env (eval x env)) (fun c s' => Q (!c) s') s) : wpS b M A (isTrue (.UnaryOp .Not x pos) env whole) Q s := by
 show wpS b M A (do return !(← isTrue x env (eval x env))) Q s
 exact ϰb (ϰk h fun c s' h' => ϰn h')
theorem S_and {x rest pos whole} {Q : Bool → Shared → Prop}
  (h : wpS b M A (isTrue x env (eval x env)) (fun c s' => if c then wpS b M A (isTrue (.BoolOp .And rest pos) env whole) Q s' else Q false s') s) : wpS b M A (isTrue (.BoolOp .And (x :: rest) pos) env whole) Q s := by
 show wpS b M A (do
  match BoolOp.And,← isTrue x env (eval x env) with
  | .And,false => pure false
  | .Or,true => pure true
  | _,_ => allTrue .And rest env) Q s
 refine ϰb (ϰk h fun c s' h' => ?_)
 cases c with
 | false => exact ϰn h'
 | true => exact h'
theorem S_or {x rest pos whole} {Q : Bool → Shared → Prop}
  (h : wpS b M A (isTrue x env (eval x env)) (fun c s' => if c then Q true s' else wpS b M A (isTrue (.BoolOp .Or rest pos) env whole) Q s') s) : wpS b M A (isTrue (.BoolOp .Or (x :: rest) pos) env whole) Q s := by
 show wpS b M A (do
  match BoolOp.Or,← isTrue x env (eval x env) with
  | .And,false => pure false
  | .Or,true => pure true
  | _,_ => allTrue .Or rest env) Q s
 refine ϰb (ϰk h fun c s' h' => ?_)
 cases c with
 | false => exact h'
 | true => exact ϰn h'
theorem S_isTrue_IfExp {test body orelse pos whole} {Q : Bool → Shared → Prop}
  (h : wpS b M A (isTrue test env (eval test env)) (fun c s₂ => if c then wpS b M A (isTrue body env (eval body env)) Q s₂ else wpS b M A (isTrue orelse env (eval orelse env)) Q s₂) s) :
  wpS b M A (isTrue (.IfExp test body orelse pos) env whole) Q s := by
 show wpS b M A (do if ← isTrue test env (eval test env) then isTrue body env (eval body env) else isTrue orelse env (eval orelse env)) Q s
 refine ϰb (ϰk h fun c s₂ h₂ => ?_)
 cases c <;> exact h₂
theorem S_IfExp {test body orelse pos} {Q : Value → Shared → Prop}
  (h : wpS b M A (isTrue test env (eval test env)) (fun c s₂ => if c then wpS b M A (eval body env) Q s₂ else wpS b M A (eval orelse env) Q s₂) s) : wpS b M A (eval (.IfExp test body orelse pos) env) Q s := by
 rw [eval_IfExp]
 refine ϰb (ϰk h fun c s₂ h₂ => ?_)
 cases c <;> exact h₂
theorem S_UnaryOp {op x pos} {Q : Value → Shared → Prop} (h : wpS b M A (eval x env) (fun v s₁ => wpS b M A (unaryOp op v) Q s₁) s) : wpS b M A (eval (.UnaryOp op x pos) env) Q s := by
 rw [eval_UnaryOp]
 exact ϰb (ϰk h fun v s₁ h₁ => ϰb (ϰp (ϰo h₁)))
theorem S_not_of {v : Value} {Q : Value → Shared → Prop} (h : wpS b M A (truthy v) (fun c s' => Q (.bool (!c)) s') s) : wpS b M A (unaryOp .Not v) Q s := by
 unfold unaryOp
 refine ϰo ?_
 exact ϰb (m := truthy v) (ϰk h fun c s' h' => ϰn h')
theorem S_BoolOp_or {e₁ e₂ rest pos} {Q : Value → Shared → Prop}
  (h : wpS b M A (eval e₁ env) (fun v s₁ => wpS b M A (truthy v) (fun c s₂ => if c then Q v s₂ else wpS b M A (eval (.BoolOp .Or (e₂ :: rest) pos) env) Q s₂) s₁) s) :
  wpS b M A (eval (.BoolOp .Or (e₁ :: e₂ :: rest) pos) env) Q s := by
 show wpS b M A (do
  let v ← eval e₁ env
  standAt pos
  let c ← holding [v] (truthy v)
  match BoolOp.Or,c with
  | .And,false | .Or,true => pure v
  | _,_ => boolOp pos .Or (eval e₂ env :: evalEach rest env)) Q s
 refine ϰb (ϰk h fun v s₁ h₁ => ϰb (ϰp (ϰb (ϰo (ϰk h₁ fun c s₂ h₂ => ?_)))))
 cases c with
 | false => exact h₂
 | true => exact ϰn h₂
theorem S_items_nil {pos : Pos} {Q : List Value → Shared → Prop} (h : Q [] s) : wpS b M A (spliced (backTo pos (starEach [] env))) Q s := ϰn h
theorem S_items_cons {pos : Pos} {e : Expr} {rest : List Expr} {Q : List Value → Shared → Prop}
  (h : wpS b M A (eval e env) (fun v s₁ => wpS b M A (spliced (backTo pos (starEach rest env))) (fun vs s₂ => Q (v :: vs) s₂) s₁) s)
  (he : starEach (e :: rest) env = (false,eval e env) :: starEach rest env) : wpS b M A (spliced (backTo pos (starEach (e :: rest) env))) Q s := by
 rw [he]
 show wpS b M A (do
  let v ← eval e env
  let here ← (pure [v] : Sem (List Value))
  return here ++ (← holding here (spliced (backTo pos (starEach rest env))))) Q s
 exact ϰb (ϰk h fun v s₁ h₁ => ϰb (ϰn (ϰb (ϰo (ϰk h₁ fun vs s₂ h₂ => ϰn h₂)))))
theorem ϰbh {Q : Flow → Shared → Prop} (h : Q .next s) : wpS b M A (execs [] env) Q s := ϰn h
theorem S_execs_cons {st rest} {Q : Flow → Shared → Prop}
  (h : wpS b M A (exec st env) (fun f s' => match f with | .next => wpS b M A (execs rest env) Q s' | f => Q f s') s) : wpS b M A (execs (st :: rest) env) Q s := by
 rw [execs_cons]
 refine ϰb (ϰk h fun f s' h' => ?_)
 cases f <;> first | exact h' | exact ϰn h'
theorem S_If {test body orelse pos} {Q : Flow → Shared → Prop}
  (h : wpS b M A (isTrue test env (eval test env)) (fun c s₂ => if c then wpS b M A (execs body env) Q s₂ else wpS b M A (execs orelse env) Q s₂) s) : wpS b M A (exec (.If test body orelse pos) env) Q s := by
 rw [exec_If]
 refine ϰb (ϰp (ϰb (ϰk h fun c s₂ h₂ => ?_)))
 cases c <;> exact h₂
theorem S_Return {e pos} {Q : Flow → Shared → Prop} (h : wpS b M A (eval e env) (fun v => Q (.ret v)) s) : wpS b M A (exec (.Return (some e) pos) env) Q s := by
 rw [exec_Return_some]
 exact ϰb (ϰp (ϰb (ϰk h fun v s' h' => ϰn h')))
theorem ϰaX {x : Str} {v : Value} {Q : Unit → Shared → Prop} (h : wpS b M A (storeName env x v) Q s) : wpS b M A (bindName env x v) Q s := by
 unfold bindName
 exact ϰb (ϰo (wpS_point (ϰb (ϰk h fun _ s' h' => wpS_point h'))))
theorem S_Assign_Name {x pos' value pos} {Q : Flow → Shared → Prop}
  (h : wpS b M A (eval value env) (fun v s₁ => wpS b M A (storeName env x v) (fun _ => Q .next) s₁) s)
  (hs : swapsWith value (some (.Name x pos')) pos.line env = pure false) : wpS b M A (exec (.Assign [.Name x pos'] value pos) env) Q s := by
 rw [exec_Assign_Name env x pos' value pos hs]
 exact ϰb (ϰp (ϰb (ϰk h fun v s₁ h₁ => ϰb (ϰp (ϰb (ϰaX (ϰk h₁ fun _ s₂ h₂ => ϰn h₂)))))))
theorem S_AugAssign_Name {x pos' op value pos} {Q : Flow → Shared → Prop}
  (h : wpS b M A (loadName env x) (fun old s₁ => wpS b M A (eval value env) (fun v s₂ => wpS b M A (inplaceOp op old v)
   (fun r s₃ => wpS b M A (storeName env x r) (fun _ => Q .next) s₃) s₂) s₁) s) : wpS b M A (exec (.AugAssign (.Name x pos') op value pos) env) Q s := by
 rw [exec_AugAssign_Name]
 exact ϰb (ϰp (ϰb (ϰk h fun old s₁ h₁ => ϰb (ϰo (ϰk h₁ fun v s₂ h₂ => ϰb (ϰp (ϰb (ϱZ (ϰk h₂ fun r s₃ h₃ =>
  ϰb (ϰp (ϰb (ϰaX (ϰk h₃ fun _ s₄ h₄ => ϰn h₄)))))))))))))
theorem S_Expr {e pos} {Q : Flow → Shared → Prop} (h : wpS b M A (eval e env) (fun v s' => match v with | .ref _ => False | _ => Q .next s') s)
  (hi : interactive env = false) (hs : swapsWith e none pos.line env = pure false) : wpS b M A (exec (.Expr e pos) env) Q s := by
 rw [exec_Expr env e pos hi hs]
 refine ϰb (ϰp (ϰb (ϰk h fun v s' h' => ?_)))
 have hv : ∀ a,v ≠ .ref a := fun a hva => by subst hva;exact h'
 rw [dropValue_plain hv]
 refine ϰn ?_
 cases v <;> first | exact h' | exact (hv _ rfl).elim
theorem S_runOwn {c : Code} {Q : Flow → Shared → Prop} (hf : fine c = true) (hc : codeS b M A c (fun r s' => match r with | .ok f => Q f s' | .error _ => False) s) : wpS b M A (runOwn c env) Q s := by
 unfold runOwn
 exact ϰas (wpS_run hf hc)
theorem S_While {test body orelse pos} {Q : Flow → Shared → Prop}
  (h : codeS b M A (.whileLoop test body orelse env) (fun r s' => match r with | .ok f => Q f s' | .error _ => False) s) : wpS b M A (exec (.While test body orelse pos) env) Q s := by
 rw [exec_While];exact ϰb (ϰp (S_runOwn rfl h))
theorem S_Tuple {elts : List Expr} {k : Nat} {pos : Pos} {Q : Value → Shared → Prop}
  (h : wpS b M A (spliced (backTo pos (starEach elts env))) (fun vs s₁ => wpS b M A (newTuple vs) Q s₁) s) : wpS b M A (eval (.Tuple elts k pos) env) Q s := by
 show wpS b M A (do standAt pos;newTuple (← spliced (backTo pos (starEach elts env)))) Q s
 exact ϰb (ϰp (ϰb h))
theorem S_List {elts : List Expr} {pos : Pos} {Q : Value → Shared → Prop}
  (h : wpS b M A (spliced (backTo pos (starEach elts env))) (fun vs s₁ => wpS b M A (newList vs) Q s₁) s) : wpS b M A (eval (.List elts pos) env) Q s := by
 show wpS b M A (do standAt pos;newList (← spliced (backTo pos (starEach elts env)))) Q s
 exact ϰb (ϰp (ϰb h))
theorem ϰaC {value slice : Expr} {pos : Pos} {Q : Value → Shared → Prop}
  (h : wpS b M A (eval value env) (fun o s₁ => wpS b M A (eval slice env) (fun i s₂ => wpS b M A (subscriptTail value slice o i) Q s₂) s₁) s) : wpS b M A (eval (.Subscript value slice pos) env) Q s := by
 show wpS b M A (do
  let o ← eval value env
  let i ← holding [o] (eval slice env)
  standAt pos
  subscriptTail value slice o i) Q s
 exact ϰb (ϰk h fun o s₁ h₁ => ϰb (ϰo (ϰk h₁ fun i s₂ h₂ => ϰb (ϰp h₂))))
theorem S_Attribute_Name {x attr : Str} {xp pos : Pos} {Q : Value → Shared → Prop}
  (h : wpS b M A (eval (.Name x xp) env) (fun o s₁ => wpS b M A (getAttr o attr true) Q s₁) s) : wpS b M A (eval (.Attribute (.Name x xp) attr pos) env) Q s := by
 show wpS b M A (do
   let o ← eval (.Name x xp) env
   standAt pos.atName
   let r ← holding [o] (getAttr o attr true)
   letTemporaryGo (.Name x xp) o r
   pure r) Q s
 exact ϰb (ϰk h fun o s₁ h₁ => ϰb (ϰp (ϰb (ϰo (ϰk h₁ fun r s₂ h₂ => ϰb (ϰn (a := ()) (ϰn h₂)))))))
theorem S_Call_Name {x : Str} {p pos : Pos} {args : List Expr} {Q : Value → Shared → Prop}
  (h : wpS b M A (eval (.Name x p) env) (fun f s₁ => wpS b M A (callWith pos f [] (backTo pos (starEach args env)) []) Q s₁) s) : wpS b M A (eval (.Call (.Name x p) args [] pos) env) Q s := ϰb h
theorem ϰak {o : Expr} {name : Str} {apos pos : Pos} {args : List Expr} {pl : Sem Bool} {Q : Value → Shared → Prop}
  (h : wpS b M A (eval o env) (fun ov s₁ => wpS b M A (getMethod ov name pl) (fun fx s₂ => wpS b M A (callWith pos fx.1 fx.2 (backTo pos (starEach args env)) []) Q s₂) s₁) s)
  (he : eval (.Call (.Attribute o name apos) args [] pos) env = (do
   let ov ← eval o env
   standAt apos.atName
   let (f,first) ← holding [ov] (getMethod ov name pl)
   callWith pos f first (backTo pos (starEach args env)) [])) : wpS b M A (eval (.Call (.Attribute o name apos) args [] pos) env) Q s := by
 rw [he]
 exact ϰb (ϰk h fun ov s₁ h₁ => ϰb (ϰp (ϰb (ϰo (ϰk h₁ fun fx s₂ h₂ => h₂)))))
theorem ϰal {o attr pos' value pos} {Q : Flow → Shared → Prop}
  (h : wpS b M A (eval value env) (fun v s₁ => wpS b M A (eval o env) (fun ov s₂ => wpS b M A (setAttr ov attr v) (fun _ => Q .next) s₂) s₁) s)
  (hs : swapsWith value (some (.Attribute o attr pos')) pos.line env = pure false) : wpS b M A (exec (.Assign [.Attribute o attr pos'] value pos) env) Q s := by
 rw [plainObj_exec_Assign_Attribute o attr pos' value pos hs]
 refine ϰb (ϰp (ϰb (ϰk h fun v s₁ h₁ => ?_)))
 rw [assign_Attribute]
 exact ϰb (ϰb (ϰo (ϰk h₁ fun ov s₂ h₂ => ϰb (ϰp (ϰb (ϰo (ϰk h₂ fun _ s₃ h₃ => ϰbc (ϰn h₃))))))))
theorem S_Assign_Subscript {o i pos' value pos} {Q : Flow → Shared → Prop}
  (h : wpS b M A (eval value env) (fun v s₁ => wpS b M A (eval o env) (fun ov s₂ => wpS b M A (eval i env) (fun iv s₃ => wpS b M A (setItem ov iv v) (fun _ => Q .next) s₃) s₂) s₁) s)
  (hs : swapsWith value (some (.Subscript o i pos')) pos.line env = pure false) : wpS b M A (exec (.Assign [.Subscript o i pos'] value pos) env) Q s := by
 rw [exec_Assign_Subscript o i pos' value pos hs]
 refine ϰb (ϰp (ϰb (ϰk h fun v s₁ h₁ => ?_)))
 rw [assign_Subscript]
 exact ϰb (ϰb (ϰo (ϰk h₁ fun ov s₂ h₂ => ϰb (ϰo (ϰk h₂ fun iv s₃ h₃ => ϰb (ϰp (ϰb (ϰo (ϰk h₃ fun _ s₄ h₄ => ϰbc (ϰn h₄))))))))))
theorem ϰaN {o value : Expr} {attr : Str} {tpos pos : Pos} {op : Operator} {Q : Flow → Shared → Prop}
  (h : wpS b M A (eval o env) (fun ov s₁ => wpS b M A (getAttr ov attr true) (fun old s₂ => wpS b M A (eval value env) (fun v s₃ => wpS b M A (inplaceOp op old v) (fun new s₄ =>
      wpS b M A (setAttr ov attr new) (fun _ => Q .next) s₄) s₃) s₂) s₁) s) : wpS b M A (exec (.AugAssign (.Attribute o attr tpos) op value pos) env) Q s := by
 have e : exec (.AugAssign (.Attribute o attr tpos) op value pos) env = (do
   standAt pos
   let ov ← eval o env
   let new ← holding [ov] do
    standAt tpos.atName
    let old ← getAttr ov attr true
    let v ← holding [old] (eval value env)
    standAt pos
    operate [old,v] (inplaceOp op old v)
   standAt tpos.atName
   holding [new,ov] (setAttr ov attr new)
   release [new,ov] []
   pure .next) := rfl
 rw [e]
 exact ϰb (ϰp (ϰb (ϰk h fun ov s₁ h₁ => ϰb (ϰo (ϰb (ϰp (ϰb (ϰk h₁ fun old s₂ h₂ => ϰb (ϰo (ϰk h₂ fun v s₃ h₃ =>
  ϰb (ϰp (ϱZ (ϰk h₃ fun new s₄ h₄ => ϰb (ϰp (ϰb (ϰo (ϰk h₄ fun _ s₅ h₅ => ϰb (ϰbc (ϰn h₅)))))))))))))))))))
theorem S_Assign_Tuple {elts k tpos value pos} {Q : Flow → Shared → Prop}
  (h : wpS b M A (eval value env) (fun v s₁ => wpS b M A (assign (.Tuple elts k tpos) env v) (fun _ => Q .next) s₁) s)
  (h1 : swapsWithSole [.Tuple elts k tpos] value pos.line env = pure false) (h2 : swappedStores [.Tuple elts k tpos] value env = pure none) : wpS b M A (exec (.Assign [.Tuple elts k tpos] value pos) env) Q s := by
 rw [exec_Assign_arm,h1]
 refine ϰb (ϰp (ϰb (ϰn ?_)))
 simp only [Bool.false_eq_true,if_false]
 refine ϰb (ϰk h fun v s₁ h₁ => ?_)
 rw [h2]
 refine ϰb (ϰn ?_)
 show wpS b M A (do assign (.Tuple elts k tpos) env v;pure .next) Q s₁
 exact ϰb (ϰk h₁ fun _ s₂ h₂ => ϰn h₂)
theorem S_callWith {f : Value} {first : List Value} {pos : Pos} {P : Heap → Prop} {args : List (Bool × Sem Value)} {Q : Value → Shared → Prop} (hplain : args.any (·.1) = false)
  (hk : ∀ h,P h → ∃ k,(k = Keeper.frame ∨ k = Keeper.machine ∨ k = Keeper.boundFrame) ∧ Looks M h (keeperOf f) k)
  (h : wpS b M A (spliced args) (fun vs s₁ => P s₁.heap ∧ wpS b M A (call f (first ++ vs)) Q s₁) s) : wpS b M A (callWith pos f first args []) Q s := by
 unfold callWith
 have he : evalArgs f true args [] = (spliced args >>= fun vs => holding (vs ++ (none : Option Value).toList) (pure (⟨vs,[]⟩ : Args))) := by
  unfold evalArgs
  cases args with
  | nil => rfl
  | cons p r =>
   obtain ⟨c,t⟩ := p
   cases c with
   | true => simp at hplain
   | false => rfl
 rw [he]
 refine ϰb (ϰo (ϰb (ϰk h fun vs s₁ h₁ => ϰo (ϰn (ϰb (ϰp ?_))))))
 obtain ⟨k,hk',L⟩ := hk _ h₁.1
 rw [hplain]
 refine ϰb (ϰj (L.here (E := fun _ _ => False) ?_))
 have tail : ∀ {t : Sem Value},wpS b M A t Q s₁ → wpS b M A (t >>= fun r => holding [r] point >>= fun _ => pure r) Q s₁ :=
  fun ht => ϰb (ϰk ht fun r s₂ hr => ϰb (ϰo (wpS_point (ϰn hr))))
 have marked (mk : Value) : wpS b M A (callMarked mk f (first ++ vs) []) Q s₁ := by unfold callMarked;exact wpS_keep h₁.2
 have br : ∀ {p : Prop} (i : Decidable p) {x y : Sem Value},wpS b M A x Q s₁ → wpS b M A y Q s₁ → wpS b M A (@ite _ p i x y) Q s₁ := fun i _ _ h1 h2 => by cases i;exact h2;exact h1
 rcases hk' with rfl | rfl | rfl
 ·exact br _ (tail h₁.2) (tail (marked _))
 ·exact tail h₁.2
 ·exact br _ (tail h₁.2) (tail (marked _))
theorem ϰbi {xs : List Value} {Q : Unit → Shared → Prop} (h : Q () s) : wpS b M A (assignInOrder [] xs) Q s := ϰn h
theorem ϰaY {t : Value → Sem Unit} {ts : List (Value → Sem Unit)} {x : Value} {xs : List Value} {Q : Unit → Shared → Prop}
  (h : wpS b M A (t x) (fun _ s₁ => wpS b M A (assignInOrder ts xs) Q s₁) s) : wpS b M A (assignInOrder (t :: ts) (x :: xs)) Q s := by
 show wpS b M A (do holding xs (t x);assignInOrder ts xs) Q s
 exact ϰb (ϰo h)
end
end Mine
namespace Mine
noncomputable abbrev Led := List (Addr × Obj)
inductive AV where
 | none
 | bool (b : Bool)
 | int (i : Int)
 | bytes (b : List Int)
 | str (s : Str)
 | ref (a : Addr)
 | raw (v : Value)
 | tup (l : List AV)
noncomputable abbrev tupO (vs : List Value) (n : Nat) : Obj := { cls := .type "tuple",data := .seq vs.toArray n }
mutual
noncomputable def VR (T : Led) : AV → Value → Prop
 | .none,v => v = .none
 | .bool b,v => v = .bool b
 | .int i,v => ∃ t,v = .int i t
 | .bytes ks,v => ∃ b t,v = .bytes b t ∧ KBw.bInts b = ks
 | .str x,v => ∃ t,v = .str x t
 | .ref a,v => v = .ref a
 | .raw w,v => v = w
 | .tup l,v => ∃ a vs n,v = .ref a ∧ (a,tupO vs n) ∈ T ∧ VRs T l vs
noncomputable def VRs (T : Led) : List AV → List Value → Prop
 | [],vs => vs = []
 | x :: l,vs => ∃ v r,vs = v :: r ∧ VR T x v ∧ VRs T l r
end
theorem VRn (T : Led) (vs : List Value) : VRs T [] vs = (vs = []) := rfl
theorem VRc (T : Led) (x : AV) (l : List AV) (vs : List Value) : VRs T (x :: l) vs = ∃ v r,vs = v :: r ∧ VR T x v ∧ VRs T l r := rfl
mutual
theorem VR.mono {T T' : Led} (h : ∀ p ∈ T,p ∈ T') : ∀ {x : AV} {v : Value},VR T x v → VR T' x v
 | .none,_,h1 => h1
 | .bool _,_,h1 => h1
 | .int _,_,h1 => h1
 | .bytes _,_,h1 => h1
 | .str _,_,h1 => h1
 | .ref _,_,h1 => h1
 | .raw _,_,h1 => h1
 | .tup l,_,h1 => by
  obtain ⟨a,vs,n,e,hm,hr⟩ := h1
  exact Exists.intro a ⟨vs,n,e,h _ hm,VRs.mono h hr⟩
theorem VRs.mono {T T' : Led} (h : ∀ p ∈ T,p ∈ T') : ∀ {l : List AV} {vs : List Value},VRs T l vs → VRs T' l vs
 | [],_,h1 => h1
 | x :: l,_,h1 => by
  simp only [VRn,VRc] at h1 ⊢
  obtain ⟨v,r,e,hv,hr⟩ := h1
  exact ⟨v,r,e,VR.mono h hv,VRs.mono h hr⟩
end
theorem VRs.nil {T : Led} : VRs T [] [] := by simp only [VRn,VRc]
theorem VRs.cons {T : Led} {x : AV} {l : List AV} {v : Value} {vs : List Value} (h : VR T x v) (hs : VRs T l vs) : VRs T (x :: l) (v :: vs) := by
 simp only [VRn,VRc];exact ⟨v,vs,rfl,h,hs⟩
theorem VRs.length {T : Led} : ∀ {l : List AV} {vs : List Value},VRs T l vs → vs.length = l.length
 | [],vs,h => by simp only [VRn,VRc] at h;simp [h]
 | x :: l,vs,h => by
  simp only [VRn,VRc] at h
  obtain ⟨v,r,rfl,_,hr⟩ := h
  simp [hr.length]
theorem VRs.get {T : Led} : ∀ {l : List AV} {vs : List Value} {i : Nat} {x : AV},VRs T l vs → l[i]? = some x → ∃ v,vs[i]? = some v ∧ VR T x v
 | [],_,_,_,_,h => by simp at h
 | y :: l,vs,i,x,h,hi => by
  simp only [VRn,VRc] at h
  obtain ⟨v,r,rfl,hv,hr⟩ := h
  cases i with
  | zero => simp at hi;subst hi;exact ⟨v,by simp,hv⟩
  | succ i =>
   simp at hi
   obtain ⟨w,hw,hr'⟩ := hr.get hi
   exact ⟨w,by simpa using hw,hr'⟩
theorem VRs.append {T : Led} : ∀ {l l' : List AV} {vs vs' : List Value},VRs T l vs → VRs T l' vs' → VRs T (l ++ l') (vs ++ vs')
 | [],_,vs,_,h,h' => by simp only [VRn,VRc] at h;subst h;exact h'
 | x :: l,_,vs,_,h,h' => by
  simp only [VRn,VRc] at h
  obtain ⟨v,r,rfl,hv,hr⟩ := h
  exact VRs.cons hv (hr.append h')
theorem VRs.take {T : Led} : ∀ {l : List AV} {vs : List Value} (n : Nat),VRs T l vs → VRs T (l.take n) (vs.take n)
 | [],vs,n,h => by simp only [VRn,VRc] at h;subst h;simpa using VRs.nil
 | x :: l,vs,n,h => by
  simp only [VRn,VRc] at h
  obtain ⟨v,r,rfl,hv,hr⟩ := h
  cases n with
  | zero => simpa using VRs.nil
  | succ n => exact VRs.cons hv (hr.take n)
theorem VRs.drop {T : Led} : ∀ {l : List AV} {vs : List Value} (n : Nat),VRs T l vs → VRs T (l.drop n) (vs.drop n)
 | [],vs,n,h => by simp only [VRn,VRc] at h;subst h;simpa using VRs.nil
 | x :: l,vs,n,h => by
  have h0 := h
  simp only [VRn,VRc] at h
  obtain ⟨v,r,rfl,hv,hr⟩ := h
  cases n with
  | zero => exact h0
  | succ n => exact hr.drop n
inductive AO where
 | list (l : List AV)
 | listQ (l : List AV)
 | inst (C : Addr) (fs : List (Str × AV))
 | bytearray (b : List Int)
 | cell (v : Option AV)
 | rng (a b st : Int)
 | one (o : Obj)
noncomputable def FsR (P : Params) (T : Led) : List (Str × AV) → List DictEntry → Prop
 | [],es => es = []
 |(x,av) :: r,es => ∃ t v es',es = ⟨PyData.keyHash P x,.str x t,v⟩ :: es' ∧ VR T av v ∧ FsR P T r es'
noncomputable def OR (P : Params) (T : Led) (a : Addr) : AO → Led → Prop
 | .list l,L => ∃ vs n,L = [(a,listOf vs.toArray n)] ∧ VRs T l vs
 | .listQ l,L => ∃ o vs n,L = [(a,o)] ∧ o.cls = .type "list" ∧ o.data = .seq vs.toArray n ∧ VRs T l vs
 | .inst C fs,L => ∃ d es n,L = [(a,instObj C d),(d,dictOf es n)] ∧ FsR P T fs es ∧ (fs.map (·.1)).Nodup
 | .bytearray ks,L => ∃ b n,L = [(a,({ cls := .type "bytearray",data := .bytearray b n } : Obj))] ∧ n = 0 ∧ KBw.bInts b = ks
 | .cell v,L => ∃ o w,L = [(a,o)] ∧ o.data = .cell w ∧ (match v,w with | none,none => True | some av,some v => VR T av v | _,_ => False)
 | .rng x y z,L => ∃ t u q,L = [(a,({ cls := .type "range",data := .fields #[.int x t,.int y u,.int z q] } : Obj))]
 | .one o,L => L = [(a,o)]
theorem FsN (P : Params) (T : Led) (es : List DictEntry) : FsR P T [] es = (es = []) := rfl
theorem FsC (P : Params) (T : Led) (x : Str) (av : AV) (r : List (Str × AV)) (es : List DictEntry) : FsR P T ((x,av) :: r) es = ∃ t v es',es = ⟨PyData.keyHash P x,.str x t,v⟩ :: es' ∧ VR T av v ∧ FsR P T r es' := rfl
theorem FsR.mono {P : Params} {T T' : Led} (h : ∀ p ∈ T,p ∈ T') : ∀ {fs : List (Str × AV)} {es : List DictEntry},FsR P T fs es → FsR P T' fs es
 | [],_,h1 => h1
 |(x,av) :: r,_,h1 => by
  simp only [FsN,FsC] at h1 ⊢
  obtain ⟨t,v,es',e,hv,hr⟩ := h1
  exact ⟨t,v,es',e,hv.mono h,FsR.mono h hr⟩
theorem OR.mono {P : Params} {T T' : Led} (h : ∀ p ∈ T,p ∈ T') {a : Addr} {o : AO} {L : Led} (r : OR P T a o L) : OR P T' a o L := by
 cases o with
 | list l => obtain ⟨vs,n,e,hr⟩ := r;exact ⟨vs,n,e,hr.mono h⟩
 | listQ l => obtain ⟨o,vs,n,e,h1,h2,hr⟩ := r;exact ⟨o,vs,n,e,h1,h2,hr.mono h⟩
 | inst C fs => obtain ⟨d,es,n,e,hr,nd⟩ := r;exact ⟨d,es,n,e,hr.mono h,nd⟩
 | bytearray b => exact r
 | cell v =>
  obtain ⟨o,w,e,hd,hr⟩ := r
  refine ⟨o,w,e,hd,?_⟩
  cases v <;> cases w <;> first | exact hr | exact VR.mono h hr
 | rng x y z => exact r
 | one o => exact r
noncomputable def Owns (P : Params) (T : Led) : List (Addr × AO) → Led → Prop
 | [],L => L = []
 |(a,o) :: r,L => ∃ l L',L = l ++ L' ∧ OR P T a o l ∧ Owns P T r L'
theorem OwN (P : Params) (T : Led) (L : Led) : Owns P T [] L = (L = []) := rfl
theorem OwC (P : Params) (T : Led) (a : Addr) (o : AO) (r : List (Addr × AO)) (L : Led) : Owns P T ((a,o) :: r) L = ∃ l L',L = l ++ L' ∧ OR P T a o l ∧ Owns P T r L' := rfl
theorem Owns.mono {P : Params} {T T' : Led} (h : ∀ p ∈ T,p ∈ T') : ∀ {hp : List (Addr × AO)} {L : Led},Owns P T hp L → Owns P T' hp L
 | [],_,h1 => h1
 |(a,o) :: r,_,h1 => by
  simp only [OwN,OwC] at h1 ⊢
  obtain ⟨l,L',e,ho,hr⟩ := h1
  exact ⟨l,L',e,ho.mono h,Owns.mono h hr⟩
set_option genInjectivity false in
set_option genSizeOfSpec false in
structure Cx where
 cb : Bool
 prog : Program
 w : World
 K : Frag
 p : Program
 loose : List Str
 mean : ExcName → Option Value
 mg : Str → Option Value
 mb : Str → Option Value
 dp : Nat
 un : Nat
 gd : Option (List Code)
 cn : Str
 cs : Scope
 L : Addr
 fa : Addr
 ccd : Value
 cl : List (Str × Addr)
 outer : List Env
 A0 : Around
 base : Heap
 h0 : Heap
 s0 : Shared
 glob : List (Str × AV)
 B : Below A0 base outer h0
 X : K.In h0
 T : Top p loose mean mg mb h0
 hk : cs.kind = .function
 hg : ∀ x av,(x,av) ∈ glob → (envX cn cs L fa ccd cl).kindOf x = some .globalImplicit ∧ (x == ("__debug__" : Str)) = false ∧
  ((∃ v,nsIn K mainGlobals x = some (some v) ∧ VR [] av v) ∨ (nsIn K mainGlobals x = some none ∧ ∃ v,bootBuiltins x = some v ∧ x ≠ "__name__" ∧ VR [] av v)) ∧
  (∀ v,av = .raw v → keepIn K v = true ∨ v.onHeap = false)
noncomputable abbrev Cx.M (c : Cx) : Model := model c.prog c.w
noncomputable abbrev Cx.env (c : Cx) : Env := envX c.cn c.cs c.L c.fa c.ccd c.cl
noncomputable abbrev Cx.A (c : Cx) : Around := ktrTop c.dp c.un c.gd c.cn c.cs c.L c.fa c.ccd c.cl c.outer
noncomputable def Cx.room (c : Cx) (n : Nat) : Prop := c.dp + n < recursionLimit ∧ c.un + 8 * n < cLine
structure St where
 loc : List (Str × Option AV)
 hp : List (Addr × AO)
noncomputable def LocR (c : Cx) (T : Led) (loc : List (Str × Option AV)) (m : Str → Option Value) : Prop :=
 ∀ x o,(x,o) ∈ loc → (c.env.kindOf x = some .local ∧ (x == ("__debug__" : Str)) = false) ∧ ∀ av,o = some av → ∃ v,m x = some v ∧ VR T av v
structure Holds (c : Cx) (σ : St) (T fr : Led) (s : Shared) : Prop where
 fr_ : ∃ m,Fr c.h0 c.L s.heap m ∧ LocR c T σ.loc m
 nd : (σ.loc.map (·.1)).Nodup
 own : ∃ L,Owns c.w.params T σ.hp L ∧ News c.h0 c.L s.heap (L ++ (T ++ fr)) ∧ ((L ++ (T ++ fr)).map (·.1)).Nodup
 rest : s = { c.s0 with heap := s.heap,toks := s.toks }
theorem Holds.toks {c : Cx} {σ : St} {T fr : Led} {s : Shared} (h : Holds c σ T fr s) (n : Nat) : Holds c σ T fr { s with toks := n } :=
 ⟨h.fr_,h.nd,h.own,by rw [h.rest]⟩
noncomputable def Ext (T T' : Led) : Prop := ∃ n,T' = n ++ T
theorem Ext.refl (T : Led) : Ext T T := ⟨[],rfl⟩
theorem Ext.trans {T T' T'' : Led} (h : Ext T T') (h' : Ext T' T'') : Ext T T'' := by
 obtain ⟨n,rfl⟩ := h;obtain ⟨n',rfl⟩ := h';exact ⟨n' ++ n,by simp⟩
theorem Ext.sub {T T' : Led} (h : Ext T T') : ∀ p ∈ T,p ∈ T' := by
 obtain ⟨n,rfl⟩ := h;intro p hp;exact List.mem_append_right _ hp
noncomputable def Cont {α β : Type} (c : Cx) (R : Led → β → α → Prop) (T fr : Led) (Φ : β → St → Prop) (Q : α → Shared → Prop) : Prop :=
 ∀ b a σ' T' s',Ext T T' → Holds c σ' T' fr s' → R T' b a → Φ b σ' → Q a s'
noncomputable def W {α β : Type} (c : Cx) (R : Led → β → α → Prop) (t : Sem α) (σ : St) (Φ : β → St → Prop) : Prop :=
 ∀ T fr s Q,Holds c σ T fr s → Cont c R T fr Φ Q → wpS c.cb c.M c.A t Q s
theorem Cont.ext {α β : Type} {c : Cx} {R : Led → β → α → Prop} {T T' fr : Led} {Φ : β → St → Prop} {Q : α → Shared → Prop} (k : Cont c R T fr Φ Q) (e : Ext T T') : Cont c R T' fr Φ Q :=
 fun b a σ' T'' s' e' => k b a σ' T'' s' (e.trans e')
noncomputable def WE (c : Cx) (e : Expr) (σ : St) (Φ : AV → St → Prop) : Prop := W c VR (eval e c.env) σ Φ
noncomputable def WT (c : Cx) (e : Expr) (σ : St) (Φ : Bool → St → Prop) : Prop := W c (fun _ b a => b = a) (isTrue e c.env (eval e c.env)) σ Φ
noncomputable def WEs (c : Cx) (pos : Pos) (es : List Expr) (σ : St) (Φ : List AV → St → Prop) : Prop := W c VRs (spliced (backTo pos (starEach es c.env))) σ Φ
inductive AFl where
 | next | brk | cont
 | ret (v : AV)
noncomputable def FlR (T : Led) : AFl → Flow → Prop
 | .next,f => f = .next
 | .brk,f => f = .brk
 | .cont,f => f = .cont
 | .ret av,f => ∃ v,f = .ret v ∧ VR T av v
noncomputable def WS (c : Cx) (st : Stmt) (σ : St) (Φ : AFl → St → Prop) : Prop := W c FlR (exec st c.env) σ Φ
noncomputable def WSs (c : Cx) (sts : List Stmt) (σ : St) (Φ : AFl → St → Prop) : Prop := W c FlR (execs sts c.env) σ Φ
noncomputable def WV1 (c : Cx) (t : Value → Sem Value) (a : AV) (σ : St) (Φ : AV → St → Prop) : Prop :=
 ∀ T fr s v Q,Holds c σ T fr s → VR T a v → Cont c VR T fr Φ Q → wpS c.cb c.M c.A (t v) Q s
noncomputable def WV2 (c : Cx) (t : Value → Value → Sem Value) (a b : AV) (σ : St) (Φ : AV → St → Prop) : Prop :=
 ∀ T fr s v w Q,Holds c σ T fr s → VR T a v → VR T b w → Cont c VR T fr Φ Q → wpS c.cb c.M c.A (t v w) Q s
noncomputable def WVs (c : Cx) (f : AV) (as : List AV) (σ : St) (Φ : AV → St → Prop) : Prop :=
 ∀ T fr s v vs Q,Holds c σ T fr s → VR T f v → VRs T as vs → Cont c VR T fr Φ Q → wpS c.cb c.M c.A (call v vs) Q s
noncomputable def WTruth (c : Cx) (a : AV) (σ : St) (Φ : Bool → St → Prop) : Prop :=
 ∀ T fr s v Q,Holds c σ T fr s → VR T a v → Cont c (fun _ b a => b = a) T fr Φ Q → wpS c.cb c.M c.A (truthy v) Q s
noncomputable abbrev WBin (c : Cx) (op : Operator) (a b : AV) (σ : St) (Φ : AV → St → Prop) : Prop := WV2 c (binaryOp op) a b σ Φ
noncomputable abbrev WIn (c : Cx) (op : Operator) (a b : AV) (σ : St) (Φ : AV → St → Prop) : Prop := WV2 c (inplaceOp op) a b σ Φ
noncomputable abbrev WCmp (c : Cx) (op : CmpOp) (a b : AV) (σ : St) (Φ : AV → St → Prop) : Prop := WV2 c (compareOp op) a b σ Φ
end Mine
namespace Mine
theorem VR.of_int {T : Led} {i : Int} {t : Tok} : VR T (.int i) (.int i t) := Exists.intro _ rfl
theorem VR.of_bool {T : Led} {b : Bool} : VR T (.bool b) (.bool b) := Eq.refl (Value.bool b)
theorem VR.of_none {T : Led} : VR T .none .none := Eq.refl Value.none
theorem VR.of_str {T : Led} {x : Str} {t : Tok} : VR T (.str x) (.str x t) := Exists.intro _ rfl
theorem VR.of_ref {T : Led} {a : Addr} : VR T (.ref a) (.ref a) := Eq.refl (Value.ref a)
theorem VR.of_raw {T : Led} {v : Value} : VR T (.raw v) v := Eq.refl v
theorem VR.of_bytes {T : Led} {b : Array UInt8} {ks : List Int} {t : Tok} (h : KBw.bInts b = ks) : VR T (.bytes ks) (.bytes b t) := Exists.intro _ ⟨_,rfl,h⟩
inductive Pick {α : Type} (p : α) : List α → List α → Prop
 | head (l) : Pick p (p :: l) l
 | tail (q) {l r} : Pick p l r → Pick p (q :: l) (q :: r)
theorem Pick.perm {α : Type} {p : α} {l r : List α} (h : Pick p l r) : l.Perm (p :: r) := by
 induction h with
 | head l => exact .refl _
 | tail q _ ih => exact (ih.cons q).trans (.swap _ _ _)
theorem Owns.pick {P : Params} {T : Led} {a : Addr} {o : AO} {hp rest : List (Addr × AO)} (k : Pick (a,o) hp rest) : ∀ {L : Led},Owns P T hp L →
  ∃ l L',OR P T a o l ∧ Owns P T rest L' ∧ L.Perm (l ++ L') := by
 induction k with
 | head r =>
  intro L h
  simp only [OwN,OwC] at h
  obtain ⟨l,L',rfl,ho,hr⟩ := h
  exact ⟨l,L',ho,hr,.refl _⟩
 | tail q _ ih =>
  intro L h
  obtain ⟨b,ob⟩ := q
  simp only [OwN,OwC] at h
  obtain ⟨l,L',rfl,ho,hr⟩ := h
  obtain ⟨l2,L2,h1,h2,h3⟩ := ih hr
  refine ⟨l2,l ++ L2,h1,?_,?_⟩
  ·simp only [OwN,OwC];exact ⟨l,L2,rfl,ho,h2⟩
  ·refine (List.Perm.append_left l h3).trans ?_
   rw [← List.append_assoc,← List.append_assoc]
   exact List.Perm.append_right _ List.perm_append_comm
theorem Owns.put {P : Params} {T : Led} {a : Addr} {o : AO} {rest : List (Addr × AO)} {l L' : Led} (h1 : OR P T a o l) (h2 : Owns P T rest L') : Owns P T ((a,o) :: rest) (l ++ L') := by
 simp only [OwN,OwC];exact ⟨l,L',rfl,h1,h2⟩
theorem News.perm {h0 h : Heap} {L : Addr} {n n' : Led} (N : News h0 L h n) (e : n.Perm n') : News h0 L h n' := fun p hp => N p (e.mem_iff.mpr hp)
theorem News.sub {h0 h : Heap} {L : Addr} {n n' : Led} (N : News h0 L h n) (e : ∀ p ∈ n',p ∈ n) : News h0 L h n' := fun p hp => N p (e p hp)
theorem Holds.pick {c : Cx} {σ : St} {T fr : Led} {s : Shared} (H : Holds c σ T fr s) {a : Addr} {o : AO} {rest : List (Addr × AO)} (k : Pick (a,o) σ.hp rest) :
  ∃ l L',OR c.w.params T a o l ∧ Owns c.w.params T rest L' ∧ News c.h0 c.L s.heap (l ++ (L' ++ (T ++ fr))) ∧ ((l ++ (L' ++ (T ++ fr))).map (·.1)).Nodup := by
 obtain ⟨L,ho,N,nd⟩ := H.own
 obtain ⟨l,L',h1,h2,h3⟩ := ho.pick k
 have e : (L ++ (T ++ fr)).Perm (l ++ (L' ++ (T ++ fr))) := by
  rw [← List.append_assoc l];exact h3.append_right _
 exact ⟨l,L',h1,h2,News.perm N e,(e.map _).nodup_iff.mp nd⟩
theorem Holds.swap {c : Cx} {σ : St} {T fr : Led} {s : Shared} (H : Holds c σ T fr s) {a : Addr} {o : AO} {rest : List (Addr × AO)} (k : Pick (a,o) σ.hp rest) :
  Holds c { σ with hp := (a,o) :: rest } T fr s := by
 obtain ⟨l,L',h1,h2,N,nd⟩ := H.pick k
 exact ⟨H.fr_,H.nd,⟨l ++ L',Owns.put h1 h2,by rw [List.append_assoc];exact N,by rw [List.append_assoc];exact nd⟩,H.rest⟩
inductive GetL (x : Str) (av : AV) : List (Str × Option AV) → Prop
 | head (l) : GetL x av ((x,some av) :: l)
 | tail (p) {l} : GetL x av l → GetL x av (p :: l)
theorem GetL.mem {x : Str} {av : AV} {l : List (Str × Option AV)} (h : GetL x av l) : (x,some av) ∈ l := by
 induction h with
 | head l => exact .head _
 | tail p _ ih => exact .tail _ ih
inductive SetL (x : Str) (av : AV) : List (Str × Option AV) → List (Str × Option AV) → Prop
 | head (o l) : SetL x av ((x,o) :: l) ((x,some av) :: l)
 | tail (p) {l l'} : SetL x av l l' → SetL x av (p :: l) (p :: l')
theorem SetL.names {x : Str} {av : AV} {l l' : List (Str × Option AV)} (h : SetL x av l l') : l'.map (·.1) = l.map (·.1) := by
 induction h with
 | head o l => rfl
 | tail p _ ih => simp [ih]
theorem SetL.has {x : Str} {av : AV} {l l' : List (Str × Option AV)} (h : SetL x av l l') : ∃ o,(x,o) ∈ l := by
 induction h with
 | head o l => exact ⟨o,.head _⟩
 | tail p _ ih => obtain ⟨o,ho⟩ := ih;exact ⟨o,.tail _ ho⟩
theorem SetL.mem {x : Str} {av : AV} {l l' : List (Str × Option AV)} (h : SetL x av l l') (nd : (l.map (·.1)).Nodup) : ∀ y o,(y,o) ∈ l' → (y = x ∧ o = some av) ∨ (y ≠ x ∧ (y,o) ∈ l) := by
 induction h with
 | head o l =>
  intro y p hp
  rcases List.mem_cons.mp hp with e | hm
  ·cases e;exact .inl ⟨rfl,rfl⟩
  ·refine .inr ⟨fun e => ?_,.tail _ hm⟩
   subst e
   simp only [List.map_cons,List.nodup_cons] at nd
   exact nd.1 (List.mem_map.mpr ⟨(y,p),hm,rfl⟩)
 | tail q h ih =>
  rename_i l0 l1
  intro y p hp
  simp only [List.map_cons,List.nodup_cons] at nd
  rcases List.mem_cons.mp hp with rfl | hm
  ·refine .inr ⟨fun e => ?_,.head _⟩
   obtain ⟨o,ho⟩ := h.has
   exact nd.1 (List.mem_map.mpr ⟨(x,o),ho,e.symm⟩)
  ·rcases ih nd.2 y p hm with r | ⟨r1,r2⟩
   ·exact .inl r
   ·exact .inr ⟨r1,.tail _ r2⟩
section
variable {c : Cx} {σ : St}
theorem W.mono {α β : Type} {R : Led → β → α → Prop} {t : Sem α} {Φ Ψ : β → St → Prop} (h : W c R t σ Φ) (hi : ∀ b σ',Φ b σ' → Ψ b σ') : W c R t σ Ψ :=
 fun T fr s Q H k => h T fr s Q H fun b a σ' T' s' e H' r p => k b a σ' T' s' e H' r (hi _ _ p)
theorem ϰi {i : Int} {k pos} {Φ : AV → St → Prop} (h : Φ (.int i) σ) : WE c (.Constant (.int i) k pos) σ Φ := fun T _ _ _ H k' =>
 ϰj (wpAny_Constant_int (k' _ _ σ T _ (.refl T) (H.toks _) .of_int h))
theorem ϱi {b : Bool} {k pos} {Φ : AV → St → Prop} (h : Φ (.bool b) σ) : WE c (.Constant (.bool b) k pos) σ Φ := fun T _ _ _ H k' =>
 ϰj (Constant_bool (k' _ _ σ T _ (.refl T) H .of_bool h))
theorem ϰaA {k pos} {Φ : AV → St → Prop} (h : Φ .none σ) : WE c (.Constant .none k pos) σ Φ := fun T _ _ _ H k' =>
 ϰj (Constant_none (k' _ _ σ T _ (.refl T) H .of_none h))
theorem WE.strC {x : Str} {k pos} {Φ : AV → St → Prop} (h : Φ (.str x) σ) : WE c (.Constant (.str x) k pos) σ Φ := fun T _ _ _ H k' =>
 ϰj (wpAny_Constant_str (k' _ _ σ T _ (.refl T) (H.toks _) .of_str h))
theorem ϰM {b : List UInt8} {ks : List Int} {k pos} {Φ : AV → St → Prop} (e : b.map (fun x => (x.toNat : Int)) = ks) (h : Φ (.bytes ks) σ) : WE c (.Constant (.bytes b) k pos) σ Φ := fun T _ _ _ H k' => by
 have : ∀ s',wpS c.cb c.M c.A (eval (.Constant (.bytes b) k pos) c.env) (fun v s'' => v = .bytes b.toArray s'.toks ∧ s'' = { s' with toks := s'.toks + 1 }) s' := fun s' _ _ _ _ => ⟨rfl,rfl⟩
 refine ϰk (this _) (fun v s'' h' => ?_)
 obtain ⟨rfl,rfl⟩ := h'
 exact k' _ _ σ T _ (.refl T) (H.toks _) (.of_bytes e) h
theorem ϰa {x : Str} {pos} {av : AV} {Φ : AV → St → Prop} (g : GetL x av σ.loc) (h : Φ av σ) : WE c (.Name x pos) σ Φ := fun T _ _ _ H k => by
 obtain ⟨m,F,hl⟩ := H.fr_
 obtain ⟨⟨hx,hd⟩,hv⟩ := hl x _ g.mem
 obtain ⟨v,hm,r⟩ := hv _ rfl
 exact ϰj (nameX_L F hm (k _ _ σ T _ (.refl T) H r h) c.hk hx hd)
theorem ϱc {x : Str} {pos} {av : AV} {G : List (Str × AV)} {Φ : AV → St → Prop} (hG : c.glob = G) (g : (x,av) ∈ G) (h : Φ av σ) : WE c (.Name x pos) σ Φ := fun T _ _ _ H k => by
 subst hG
 obtain ⟨m,F,hl⟩ := H.fr_
 obtain ⟨hx,hd,hv,_⟩ := c.hg x av g
 rcases hv with ⟨v,e,r⟩ | ⟨e,v,hb,hn,r⟩
 ·exact ϰj (nameX_K F c.X (topRead_of c.T) e (k _ _ σ T _ (.refl T) H (r.mono (fun _ hp => by cases hp)) h) c.hk hx hd)
 ·exact ϰj (nameX_B F c.X (topRead_of c.T) e hb hn (k _ _ σ T _ (.refl T) H (r.mono (fun _ hp => by cases hp)) h) c.hk hx hd)
theorem ϰc {l op r pos} {Φ : AV → St → Prop} (h : WE c l σ fun a σ1 => WE c r σ1 fun b σ2 => WBin c op a b σ2 Φ) : WE c (.BinOp l op r pos) σ Φ := fun T fr s Q H k =>
 S_BinOp (h T fr s _ H fun _a va _σ1 T1 s1 e1 H1 r1 h1 => h1 T1 fr s1 _ H1 fun _b vb _σ2 T2 s2 e2 H2 r2 h2 => h2 T2 fr s2 va vb Q H2 (r1.mono e2.sub) r2 (k.ext (e1.trans e2)))
theorem WE.cmp {l op r pos} {Φ : AV → St → Prop} (h : WE c l σ fun a σ1 => WE c r σ1 fun b σ2 => WCmp c op a b σ2 Φ) (hm : behindInMarks op r = false := by rfl) : WE c (.Compare l [op] [r] pos) σ Φ := fun T fr s Q H k =>
 S_Compare1 (h T fr s _ H fun _a va _σ1 T1 s1 e1 H1 r1 h1 => h1 T1 fr s1 _ H1 fun _b vb _σ2 T2 s2 e2 H2 r2 h2 => h2 T2 fr s2 va vb Q H2 (r1.mono e2.sub) r2 (k.ext (e1.trans e2))) hm
theorem ϰu {l op r pos} {Φ : Bool → St → Prop} (h : WE c l σ fun a σ1 => WE c r σ1 fun b σ2 => WCmp c op a b σ2 fun v σ3 => ∃ b,v = .bool b ∧ Φ b σ3) (hm : behindInMarks op r = false := by rfl) :
  WT c (.Compare l [op] [r] pos) σ Φ := fun T fr s Q H k =>
 S_isTrue_Compare1 (h T fr s _ H fun _a va _σ1 T1 s1 e1 H1 r1 h1 => h1 T1 fr s1 _ H1 fun _b vb _σ2 T2 s2 e2 H2 r2 h2 => h2 T2 fr s2 va vb _ H2 (r1.mono e2.sub) r2 fun v vv σ3 T3 s3 e3 H3 r3 h3 => by
  obtain ⟨b,rfl,hb⟩ := h3
  obtain rfl : _ = Value.bool b := r3
  exact ϰj (wpAny_truthy_bool (k b b σ3 T3 s3 ((e1.trans e2).trans e3) H3 rfl hb))) hm
theorem ϰaz {e : Expr} {Φ : Bool → St → Prop} (h : WE c e σ fun a σ1 => WTruth c a σ1 Φ)
  (he : isTrue e c.env (eval e c.env) = (do let v ← eval e c.env;standAt e.pos;holding [v] (truthy v)) := by rfl) : WT c e σ Φ := fun T fr s Q H k =>
 S_isTrue_value (h T fr s _ H fun _a va _σ1 T1 s1 e1 H1 r1 h1 => h1 T1 fr s1 va Q H1 r1 (k.ext e1)) he
theorem WT.not {x : Expr} {pos} {Φ : Bool → St → Prop} (h : WT c x σ fun b σ1 => Φ (!b) σ1) : WT c (.UnaryOp .Not x pos) σ Φ := fun T fr s Q H k =>
 S_isTrue_not (h T fr s _ H fun b a σ1 T1 s1 e1 H1 r1 h1 => k (!b) (!a) σ1 T1 s1 e1 H1 (by rw [r1]) h1)
theorem ϱn {pos} {Φ : Bool → St → Prop} (h : Φ true σ) : WT c (.BoolOp .And [] pos) σ Φ := fun T _ _ _ H k => ϰj (isTrue_and_nil (k _ _ σ T _ (.refl T) H rfl h))
theorem ϰE {pos} {Φ : Bool → St → Prop} (h : Φ false σ) : WT c (.BoolOp .Or [] pos) σ Φ := fun T _ _ _ H k => ϰj (isTrue_or_nil (k _ _ σ T _ (.refl T) H rfl h))
theorem isTrue_BoolOp_any {op rest pos} {env : Env} {w1 w2 : Sem Value} : isTrue (.BoolOp op rest pos) env w1 = isTrue (.BoolOp op rest pos) env w2 := rfl
theorem ϱb {x rest pos} {Φ : Bool → St → Prop} (h : WT c x σ fun b σ1 => (b = true → WT c (.BoolOp .And rest pos) σ1 Φ) ∧ (b = false → Φ false σ1)) : WT c (.BoolOp .And (x :: rest) pos) σ Φ := fun T fr s Q H k =>
 S_and (h T fr s _ H fun b a σ1 T1 s1 e1 H1 r1 h1 => by
  subst r1
  cases b with
  | true => simp only [if_true];exact h1.1 rfl T1 fr s1 Q H1 (k.ext e1)
  | false => simp only [Bool.false_eq_true,if_false];exact k false false σ1 T1 s1 e1 H1 rfl (h1.2 rfl))
theorem ϰY {x rest pos} {Φ : Bool → St → Prop} (h : WT c x σ fun b σ1 => (b = false → WT c (.BoolOp .Or rest pos) σ1 Φ) ∧ (b = true → Φ true σ1)) : WT c (.BoolOp .Or (x :: rest) pos) σ Φ := fun T fr s Q H k =>
 S_or (h T fr s _ H fun b a σ1 T1 s1 e1 H1 r1 h1 => by
  subst r1
  cases b with
  | false => simp only [Bool.false_eq_true,if_false];exact h1.1 rfl T1 fr s1 Q H1 (k.ext e1)
  | true => simp only [if_true];exact k true true σ1 T1 s1 e1 H1 rfl (h1.2 rfl))
theorem WT.ifexp {t a b pos} {Φ : Bool → St → Prop} (h : WT c t σ fun v σ1 => (v = true → WT c a σ1 Φ) ∧ (v = false → WT c b σ1 Φ)) : WT c (.IfExp t a b pos) σ Φ := fun T fr s Q H k =>
 S_isTrue_IfExp (h T fr s _ H fun v w σ1 T1 s1 e1 H1 r1 h1 => by
  subst r1
  cases v with
  | true => exact h1.1 rfl T1 fr s1 Q H1 (k.ext e1)
  | false => exact h1.2 rfl T1 fr s1 Q H1 (k.ext e1))
theorem WE.ifexp {t a b pos} {Φ : AV → St → Prop} (h : WT c t σ fun v σ1 => (v = true → WE c a σ1 Φ) ∧ (v = false → WE c b σ1 Φ)) : WE c (.IfExp t a b pos) σ Φ := fun T fr s Q H k =>
 S_IfExp (h T fr s _ H fun v w σ1 T1 s1 e1 H1 r1 h1 => by
  subst r1
  cases v with
  | true => exact h1.1 rfl T1 fr s1 Q H1 (k.ext e1)
  | false => exact h1.2 rfl T1 fr s1 Q H1 (k.ext e1))
theorem WE.not {x pos} {Φ : AV → St → Prop} (h : WE c x σ fun a σ1 => WTruth c a σ1 fun b σ2 => Φ (.bool (!b)) σ2) : WE c (.UnaryOp .Not x pos) σ Φ := fun T fr s Q H k =>
 S_UnaryOp (h T fr s _ H fun _a va _σ1 T1 s1 e1 H1 r1 h1 => S_not_of (h1 T1 fr s1 va _ H1 r1 fun b w σ2 T2 s2 e2 H2 r2 h2 => k _ _ σ2 T2 s2 (e1.trans e2) H2 (by rw [r2];exact .of_bool) h2))
theorem WE.or_one {e pos} {Φ : AV → St → Prop} (h : WE c e σ Φ) : WE c (.BoolOp .Or [e] pos) σ Φ := h
theorem WE.and_one {e pos} {Φ : AV → St → Prop} (h : WE c e σ Φ) : WE c (.BoolOp .And [e] pos) σ Φ := h
theorem WE.or {e1 e2 rest pos} {Φ : AV → St → Prop} (h : WE c e1 σ fun a σ1 => WTruth c a σ1 fun b σ2 => (b = true → Φ a σ2) ∧ (b = false → WE c (.BoolOp .Or (e2 :: rest) pos) σ2 Φ)) : WE c (.BoolOp .Or (e1 :: e2 :: rest) pos) σ Φ := fun T fr s Q H k =>
 S_BoolOp_or (h T fr s _ H fun a va _σ1 T1 s1 e1 H1 r1 h1 => h1 T1 fr s1 va _ H1 r1 fun b w σ2 T2 s2 e2 H2 r2 h2 => by
  subst r2
  cases b with
  | true => simp only [if_true];exact k a va σ2 T2 s2 (e1.trans e2) H2 (r1.mono e2.sub) (h2.1 rfl)
  | false => simp only [Bool.false_eq_true,if_false];exact h2.2 rfl T2 fr s2 Q H2 (k.ext (e1.trans e2)))
theorem ϱm {b : Bool} {Φ : Bool → St → Prop} (h : Φ b σ) : WTruth c (.bool b) σ Φ := fun T fr s v Q H r k => by
 obtain rfl : v = Value.bool b := r
 exact ϰj (wpAny_truthy_bool (k _ _ σ T _ (.refl T) H rfl h))
theorem ϰl {pos} {Φ : List AV → St → Prop} (h : Φ [] σ) : WEs c pos [] σ Φ := fun T _ _ _ H k => S_items_nil (k _ _ σ T _ (.refl T) H .nil h)
theorem ϰe {pos e rest} {Φ : List AV → St → Prop} (h : WE c e σ fun a σ1 => WEs c pos rest σ1 fun as σ2 => Φ (a :: as) σ2)
  (he : starEach (e :: rest) c.env = (false,eval e c.env) :: starEach rest c.env := by rfl) : WEs c pos (e :: rest) σ Φ := fun T fr s Q H k =>
 S_items_cons (h T fr s _ H fun a va σ1 T1 s1 e1 H1 r1 h1 => h1 T1 fr s1 _ H1 fun as vs σ2 T2 s2 e2 H2 r2 h2 => k _ _ σ2 T2 s2 (e1.trans e2) H2 (.cons (r1.mono e2.sub) r2) h2) he
noncomputable def seqK (c : Cx) (rest : List Stmt) (Φ : AFl → St → Prop) : AFl → St → Prop
 | .next,σ1 => WSs c rest σ1 Φ
 | f,σ1 => Φ f σ1
theorem ϰf {Φ : AFl → St → Prop} (h : Φ .next σ) : WSs c [] σ Φ := fun T _ _ _ H k => ϰbh (k .next _ σ T _ (.refl T) H rfl h)
theorem ϰh {st rest} {Φ : AFl → St → Prop} (h : WS c st σ (seqK c rest Φ)) : WSs c (st :: rest) σ Φ := fun T fr s Q H k =>
 S_execs_cons (h T fr s _ H fun f fl σ1 T1 s1 e1 H1 r1 h1 => by
  cases f with
  | next => cases r1;exact h1 T1 fr s1 Q H1 (k.ext e1)
  | brk => cases r1;exact k .brk _ σ1 T1 s1 e1 H1 rfl h1
  | cont => cases r1;exact k .cont _ σ1 T1 s1 e1 H1 rfl h1
  | ret v => obtain ⟨w,rfl,r⟩ := r1;exact k (.ret v) _ σ1 T1 s1 e1 H1 ⟨w,rfl,r⟩ h1)
theorem WS.ite {t a b pos} {Φ : AFl → St → Prop} (h : WT c t σ fun v σ1 => (v = true → WSs c a σ1 Φ) ∧ (v = false → WSs c b σ1 Φ)) : WS c (.If t a b pos) σ Φ := fun T fr s Q H k =>
 S_If (h T fr s _ H fun v w σ1 T1 s1 e1 H1 r1 h1 => by
  subst r1
  cases v with
  | true => simp only [if_true];exact h1.1 rfl T1 fr s1 Q H1 (k.ext e1)
  | false => simp only [Bool.false_eq_true,if_false];exact h1.2 rfl T1 fr s1 Q H1 (k.ext e1))
theorem ϰP {e pos} {Φ : AFl → St → Prop} (h : WE c e σ fun a σ1 => Φ (.ret a) σ1) : WS c (.Return (some e) pos) σ Φ := fun T fr s Q H k =>
 S_Return (h T fr s _ H fun a va σ1 T1 s1 e1 H1 r1 h1 => k (.ret a) _ σ1 T1 s1 e1 H1 ⟨va,rfl,r1⟩ h1)
theorem WS.pass {pos} {Φ : AFl → St → Prop} (h : Φ .next σ) : WS c (.Pass pos) σ Φ := fun T _ _ _ H k => ϰj (wpAny_Pass (k .next _ σ T _ (.refl T) H rfl h))
theorem Holds.store {T fr : Led} {s : Shared} {x : Str} {av : AV} {loc' : List (Str × Option AV)} (H : Holds c σ T fr s) (hs : SetL x av σ.loc loc') {v : Value} (r : VR T av v)
  {Q : Unit → Shared → Prop} (k : ∀ h' tk',Holds c { σ with loc := loc' } T fr { s with heap := h',toks := tk' } → Q () { s with heap := h',toks := tk' }) : wpS c.cb c.M c.A (storeName c.env x v) Q s := by
 obtain ⟨m,F,hl⟩ := H.fr_
 obtain ⟨L,ho,N,nd⟩ := H.own
 obtain ⟨o,hm⟩ := hs.has
 refine ϰj (storeX_L F N (fun h' F' N' => k h' _ ⟨⟨_,F',?_⟩,by rw [hs.names];exact H.nd,⟨L,ho,N',nd⟩,by rw [H.rest]⟩) c.hk (hl x o hm).1.1)
 intro y p hp
 rcases hs.mem H.nd y p hp with ⟨rfl,rfl⟩ | ⟨hne,hm'⟩
 ·refine ⟨(hl _ o hm).1,fun av' e => ?_⟩
  cases e
  exact ⟨v,by simp,r⟩
 ·refine ⟨(hl y p hm').1,fun av' e => ?_⟩
  obtain ⟨w,hw,rw'⟩ := (hl y p hm').2 av' e
  exact ⟨w,by simp [hne,hw],rw'⟩
theorem WS.assign {x px value pos} {Φ : AFl → St → Prop} (h : WE c value σ fun a σ1 => ∃ loc',SetL x a σ1.loc loc' ∧ Φ .next { σ1 with loc := loc' })
  (hs : swapsWith value (some (.Name x px)) pos.line c.env = pure false := by rfl) : WS c (.Assign [.Name x px] value pos) σ Φ := fun T fr s Q H k =>
 S_Assign_Name (h T fr s _ H fun a va σ1 T1 s1 e1 H1 r1 h1 => by
  obtain ⟨loc',hl,hp⟩ := h1
  exact H1.store hl r1 fun h' tk' H' => k .next _ _ T1 _ e1 H' rfl hp) hs
theorem ϱf {x px op value pos} {av : AV} {Φ : AFl → St → Prop} (g : GetL x av σ.loc) (h : WE c value σ fun b σ1 => WIn c op av b σ1 fun r σ2 => ∃ loc',SetL x r σ2.loc loc' ∧ Φ .next { σ2 with loc := loc' }) :
  WS c (.AugAssign (.Name x px) op value pos) σ Φ := fun T fr s Q H k => by
 obtain ⟨m,F,hl⟩ := H.fr_
 obtain ⟨⟨hx,hd⟩,hv⟩ := hl x _ g.mem
 obtain ⟨v,hm,r⟩ := hv _ rfl
 refine S_AugAssign_Name (ϰj (wpAny_loadName_local (env := c.env) c.hk hx F.ns hm ?_))
 refine h T fr s _ H fun b vb σ1 T1 s1 e1 H1 r1 h1 => ?_
 refine h1 T1 fr s1 v vb _ H1 (r.mono e1.sub) r1 fun n vn σ2 T2 s2 e2 H2 r2 h2 => ?_
 obtain ⟨loc',hl',hp⟩ := h2
 exact H2.store hl' r2 fun h' tk' H' => k .next _ _ T2 _ (e1.trans e2) H' rfl hp
theorem interactive_no (c : Cx) : interactive c.env = false := by
 unfold interactive
 have : (c.env.scope.kind == ScopeKind.module) = false := by
  have := c.hk
  show (c.cs.kind == ScopeKind.module) = false
  rw [this];rfl
 rw [this];rfl
theorem ϰt {e pos} {Φ : AFl → St → Prop} (h : WE c e σ fun a σ1 => a = .none ∧ Φ .next σ1) (hs : swapsWith e none pos.line c.env = pure false := by rfl) : WS c (.Expr e pos) σ Φ := fun T fr s Q H k =>
 S_Expr (h T fr s _ H fun a va σ1 T1 s1 e1 H1 r1 h1 => by
  obtain ⟨rfl,hp⟩ := h1
  obtain rfl : va = Value.none := r1
  exact k .next _ σ1 T1 s1 e1 H1 rfl hp) (interactive_no c) hs
end
end Mine
namespace Mine
inductive LocLe : List (Str × Option AV) → List (Str × Option AV) → Prop
 | nil : LocLe [] []
 | keep (p) {l l'} : LocLe l l' → LocLe (p :: l) (p :: l')
 | drop (x o) {l l'} : LocLe l l' → LocLe ((x,o) :: l) ((x,none) :: l')
theorem LocLe.refl : ∀ l,LocLe l l
 | [] => .nil
 | p :: l => .keep p (LocLe.refl l)
theorem LocLe.names {l l' : List (Str × Option AV)} (h : LocLe l l') : l'.map (·.1) = l.map (·.1) := by
 induction h with
 | nil => rfl
 | keep p _ ih => simp [ih]
 | drop x o _ ih => simp [ih]
theorem LocLe.mem {l l' : List (Str × Option AV)} (h : LocLe l l') : ∀ x o,(x,o) ∈ l' → (x,o) ∈ l ∨ (o = none ∧ ∃ o',(x,o') ∈ l) := by
 induction h with
 | nil => intro x o hm;cases hm
 | keep p _ ih =>
  intro x o hm
  rcases List.mem_cons.mp hm with rfl | hm
  ·exact .inl (.head _)
  ·rcases ih x o hm with r | ⟨r1,o',r2⟩
   ·exact .inl (.tail _ r)
   ·exact .inr ⟨r1,o',.tail _ r2⟩
 | drop y q _ ih =>
  intro x o hm
  rcases List.mem_cons.mp hm with e | hm
  ·cases e;exact .inr ⟨rfl,q,.head _⟩
  ·rcases ih x o hm with r | ⟨r1,o',r2⟩
   ·exact .inl (.tail _ r)
   ·exact .inr ⟨r1,o',.tail _ r2⟩
inductive Sel {α : Type} : List α → List α → Prop
 | nil (l) : Sel l []
 | cons {p l r l'} : Pick p l r → Sel r l' → Sel l (p :: l')
theorem Sel.refl {α : Type} : ∀ l : List α,Sel l l
 | [] => .nil _
 | p :: l => .cons (.head l) (Sel.refl l)
structure Le (σ σ' : St) : Prop where
 loc : LocLe σ.loc σ'.loc
 hp : Sel σ.hp σ'.hp
theorem Le.refl (σ : St) : Le σ σ := ⟨.refl _,.refl _⟩
theorem Owns.sel {P : Params} {T : Led} {hp hp' : List (Addr × AO)} (k : Sel hp hp') : ∀ {L : Led},Owns P T hp L → ∃ L' R,Owns P T hp' L' ∧ L.Perm (L' ++ R) := by
 induction k with
 | nil l => intro L h;exact ⟨[],L,by simp only [OwN,OwC],.refl _⟩
 | cons pk _ ih =>
  rename_i p l r l' _
  intro L h
  obtain ⟨a,o⟩ := p
  obtain ⟨x,y,h1,h2,h3⟩ := h.pick pk
  obtain ⟨z,R,h4,h5⟩ := ih h2
  refine ⟨x ++ z,R,Owns.put h1 h4,h3.trans ?_⟩
  rw [List.append_assoc]
  exact List.Perm.append_left x h5
theorem Owns.perm {P : Params} {T : Led} {hp hp' : List (Addr × AO)} (k : hp.Perm hp') : ∀ {L : Led},Owns P T hp L → ∃ L',Owns P T hp' L' ∧ L.Perm L' := by
 induction k with
 | nil => intro L h;exact ⟨L,h,.refl _⟩
 | cons p _ ih =>
  intro L h
  obtain ⟨a,o⟩ := p
  simp only [OwN,OwC] at h
  obtain ⟨l,L',rfl,ho,hr⟩ := h
  obtain ⟨M,h1,h2⟩ := ih hr
  exact ⟨l ++ M,Owns.put ho h1,List.Perm.append_left l h2⟩
 | swap p q l =>
  intro L h
  obtain ⟨a,o⟩ := p
  obtain ⟨b,ob⟩ := q
  simp only [OwN,OwC] at h
  obtain ⟨x,L',rfl,h1,y,L2,rfl,h2,h3⟩ := h
  refine ⟨y ++ (x ++ L2),Owns.put h2 (Owns.put h1 h3),?_⟩
  rw [← List.append_assoc,← List.append_assoc]
  exact List.Perm.append_right _ List.perm_append_comm
 | trans _ _ ih1 ih2 =>
  intro L h
  obtain ⟨M,h1,h2⟩ := ih1 h
  obtain ⟨M',h3,h4⟩ := ih2 h1
  exact ⟨M',h3,h2.trans h4⟩
theorem Owns.append {P : Params} {T : Led} : ∀ {hp hp' : List (Addr × AO)} {L L' : Led},Owns P T hp L → Owns P T hp' L' → Owns P T (hp ++ hp') (L ++ L')
 | [],_,_,_,h,h' => by simp only [OwN,OwC] at h;subst h;exact h'
 |(a,o) :: r,_,_,_,h,h' => by
  simp only [OwN,OwC] at h
  obtain ⟨l,M,rfl,ho,hr⟩ := h
  rw [List.append_assoc]
  exact Owns.put ho (hr.append h')
theorem Owns.split {P : Params} {T : Led} : ∀ {hp hp' : List (Addr × AO)} {L : Led},Owns P T (hp ++ hp') L → ∃ L1 L2,Owns P T hp L1 ∧ Owns P T hp' L2 ∧ L = L1 ++ L2
 | [],_,L,h => ⟨[],L,by simp only [OwN,OwC],h,rfl⟩
 |(a,o) :: r,hp',L,h => by
  simp only [List.cons_append,OwN,OwC] at h
  obtain ⟨l,M,rfl,ho,hr⟩ := h
  obtain ⟨L1,L2,h1,h2,rfl⟩ := Owns.split (hp := r) hr
  exact ⟨l ++ L1,L2,Owns.put ho h1,h2,by rw [List.append_assoc]⟩
section
variable {c : Cx} {σ σ' : St} {T fr : Led} {s : Shared}
theorem Holds.le (H : Holds c σ T fr s) (h : Le σ σ') : Holds c σ' T fr s := by
 obtain ⟨m,F,hl⟩ := H.fr_
 obtain ⟨L,ho,N,nd⟩ := H.own
 obtain ⟨L',R,h1,h2⟩ := ho.sel h.hp
 have e : (L ++ (T ++ fr)).Perm (R ++ (L' ++ (T ++ fr))) := by
  refine (h2.append_right _).trans ?_
  rw [← List.append_assoc R]
  exact List.Perm.append_right _ List.perm_append_comm
 refine ⟨⟨m,F,fun x o hm => ?_⟩,by rw [h.loc.names];exact H.nd,⟨L',h1,News.sub N fun p hp => e.mem_iff.mpr (List.mem_append_right _ hp),?_⟩,H.rest⟩
 ·rcases h.loc.mem x o hm with r | ⟨rfl,o',r⟩
  ·exact hl x o r
  ·exact ⟨(hl x o' r).1,fun av e => by cases e⟩
 ·have := (e.map (·.1)).nodup_iff.mp nd
  rw [List.map_append] at this
  exact (List.nodup_append.mp this).2.1
theorem Holds.perm (H : Holds c σ T fr s) {hp : List (Addr × AO)} (h : σ.hp.Perm hp) : Holds c { σ with hp := hp } T fr s := by
 obtain ⟨L,ho,N,nd⟩ := H.own
 obtain ⟨L',h1,h2⟩ := ho.perm h
 exact ⟨H.fr_,H.nd,⟨L',h1,News.perm N (h2.append_right _),((h2.append_right _).map _).nodup_iff.mp nd⟩,H.rest⟩
theorem W.weaken {α β : Type} {R : Led → β → α → Prop} {t : Sem α} {Φ : β → St → Prop} (h : Le σ σ') (k : W c R t σ' Φ) : W c R t σ Φ :=
 fun T fr s Q H kk => k T fr s Q (H.le h) kk
theorem W.permute {α β : Type} {R : Led → β → α → Prop} {t : Sem α} {Φ : β → St → Prop} {hp : List (Addr × AO)} (h : σ.hp.Perm hp) (k : W c R t { σ with hp := hp } Φ) : W c R t σ Φ :=
 fun T fr s Q H kk => k T fr s Q (H.perm h) kk
theorem Fr.changeK {h0 h h' : Heap} {L d : Addr} {m : Str → Option Value} (F : Fr h0 L h m) (hk : ∀ b x,b ≠ d → h.get? b = some x → h'.get? b = some x) (hL : d ≠ L) (hn : h0.get? d = none) : Fr h0 L h' m := by
 obtain ⟨oL,a1,a2,hoL,a3⟩ := F.ns
 refine ⟨⟨oL,a1,a2,hk L _ hL.symm hoL,a3⟩,fun b x e => hk b x ?_ (F.keep b x e),F.above⟩
 rintro rfl
 rw [hn] at e
 cases e
theorem Holds.pushFr (H : Holds c σ T fr s) (o : Obj) (hf : o.isFreed = false) : Holds c σ T ((s.heap.objs.size,o) :: fr) { s with heap := s.heap.push o } := by
 obtain ⟨m,F,hl⟩ := H.fr_
 obtain ⟨L,ho,N,nd⟩ := H.own
 have N' := News.push F N o hf
 have lt : ∀ p ∈ L ++ (T ++ fr),p.1 < s.heap.objs.size := fun p hp => Heap.lt_size (N p hp).1
 have e : ((s.heap.objs.size,o) :: (L ++ (T ++ fr))).Perm (L ++ (T ++ ((s.heap.objs.size,o) :: fr))) := by
  rw [← List.append_assoc,← List.append_assoc]
  exact List.perm_middle.symm
 refine ⟨⟨m,F.push o,hl⟩,H.nd,⟨L,ho,News.perm N' e,?_⟩,by rw [H.rest]⟩
 refine (e.map (·.1)).nodup_iff.mp ?_
 rw [List.map_cons,List.nodup_cons]
 refine ⟨fun hm => ?_,nd⟩
 obtain ⟨p,hp,e⟩ := List.mem_map.mp hm
 exact absurd (lt p hp) (by rw [e];exact Nat.lt_irrefl _)
theorem Holds.setFr {I : Addr} {o o' : Obj} {h' : Heap} (H : Holds c σ T ((I,o) :: fr) s) (hk : ∀ b x,b ≠ I → s.heap.get? b = some x → h'.get? b = some x) (ho' : h'.get? I = some o') (tk : Nat) :
  Holds c σ T ((I,o') :: fr) { s with heap := h',toks := tk } := by
 obtain ⟨m,F,hl⟩ := H.fr_
 obtain ⟨L,ho,N,nd⟩ := H.own
 have hI := N (I,o) (by simp)
 have hne : ∀ p ∈ L ++ (T ++ fr),p.1 ≠ I := by
  have e : (L ++ (T ++ ((I,o) :: fr))).Perm ((I,o) :: (L ++ (T ++ fr))) := by
   rw [← List.append_assoc,← List.append_assoc];exact List.perm_middle
  have := (e.map (·.1)).nodup_iff.mp nd
  rw [List.map_cons,List.nodup_cons] at this
  intro p hp q
  exact this.1 (List.mem_map.mpr ⟨p,hp,q⟩)
 refine ⟨⟨m,Fr.changeK F hk hI.2.1 hI.2.2,hl⟩,H.nd,⟨L,ho,fun p hp => ?_,?_⟩,by rw [H.rest]⟩
 ·rcases List.mem_append.mp hp with q | q
  ·have P := N p (by simp [q]);exact ⟨hk _ _ (hne p (by simp [q])) P.1,P.2⟩
  ·rcases List.mem_append.mp q with q | q
   ·have P := N p (by simp [q]);exact ⟨hk _ _ (hne p (by simp [q])) P.1,P.2⟩
   ·rcases List.mem_cons.mp q with rfl | q
    ·exact ⟨ho',hI.2⟩
    ·have P := N p (by simp [q]);exact ⟨hk _ _ (hne p (by simp [q])) P.1,P.2⟩
 ·have : (L ++ (T ++ ((I,o') :: fr))).map (·.1) = (L ++ (T ++ ((I,o) :: fr))).map (·.1) := by simp
  rw [this];exact nd
theorem Holds.dropFr {p : Addr × Obj} (H : Holds c σ T (p :: fr) s) : Holds c σ T fr s := by
 obtain ⟨L,ho,N,nd⟩ := H.own
 have e : (L ++ (T ++ (p :: fr))).Perm (p :: (L ++ (T ++ fr))) := by
  rw [← List.append_assoc,← List.append_assoc];exact List.perm_middle
 have := (e.map (·.1)).nodup_iff.mp nd
 rw [List.map_cons,List.nodup_cons] at this
 exact ⟨H.fr_,H.nd,⟨L,ho,News.sub N fun q hq => e.mem_iff.mpr (.tail _ hq),this.2⟩,H.rest⟩
end
theorem Holds.exitFr {c : Cx} {σ : St} {T fr : Led} {s : Shared} {I : Addr} {o : Obj} {h' : Heap} (H : Holds c σ T ((I,o) :: fr) s) (hk : ∀ b x,b ≠ I → s.heap.get? b = some x → h'.get? b = some x) (tk : Nat) :
  Holds c σ T fr { s with heap := h',toks := tk } := by
 obtain ⟨m,F,hl⟩ := H.fr_
 obtain ⟨L,ho,N,nd⟩ := H.own
 have hI := N (I,o) (by simp)
 have e : (L ++ (T ++ ((I,o) :: fr))).Perm ((I,o) :: (L ++ (T ++ fr))) := by
  rw [← List.append_assoc,← List.append_assoc];exact List.perm_middle
 have nd' := (e.map (·.1)).nodup_iff.mp nd
 rw [List.map_cons,List.nodup_cons] at nd'
 refine ⟨⟨m,Fr.changeK F hk hI.2.1 hI.2.2,hl⟩,H.nd,⟨L,ho,fun p hp => ?_,nd'.2⟩,by rw [H.rest]⟩
 have P := N p (e.mem_iff.mpr (.tail _ hp))
 exact ⟨hk _ _ (fun q => nd'.1 (List.mem_map.mpr ⟨p,hp,q⟩)) P.1,P.2⟩
noncomputable def loopK (c : Cx) {ι : Type} (P : ι → Prop) (μ : ι → Nat) (I : ι → St) (n : Nat) (Φ : AFl → St → Prop) : AFl → St → Prop
 | .next,σ => ∃ i,P i ∧ μ i < n ∧ Le σ (I i)
 | .cont,σ => ∃ i,P i ∧ μ i < n ∧ Le σ (I i)
 | .brk,σ => Φ .next σ
 | .ret v,σ => Φ (.ret v) σ
theorem ϰab {c : Cx} {σ : St} {test body pos} {Φ : AFl → St → Prop} {ι : Type} (P : ι → Prop) (μ : ι → Nat) (I : ι → St) (i0 : ι) (h0 : P i0) (le : Le σ (I i0))
  (turn : ∀ i,P i → WT c test (I i) fun b σ1 => (b = true → WSs c body σ1 (loopK c P μ I (μ i) Φ)) ∧ (b = false → Φ .next σ1)) : WS c (.While test body [] pos) σ Φ := fun T fr s Q H k => by
 refine S_While (codeS_whileLoop (fun n s' => ∃ i T',μ i = n ∧ P i ∧ Ext T T' ∧ Holds c (I i) T' fr s') ?_ (μ i0) ⟨i0,T,rfl,h0,.refl T,H.le le⟩)
 rintro n s' ⟨i,T',rfl,hP,e,H'⟩
 refine (turn i hP T' fr s' _ H' fun b a σ1 T1 s1 e1 H1 r1 h1 => ?_)
 subst r1
 cases b with
 | false =>
  simp only [Bool.false_eq_true,if_false]
  exact ϰbh (k .next _ σ1 T1 s1 (e.trans e1) H1 rfl (h1.2 rfl))
 | true =>
  simp only [if_true]
  refine (h1.1 rfl T1 fr s1 _ H1 fun f fl σ2 T2 s2 e2 H2 r2 h2 => ?_)
  have eT := (e.trans e1).trans e2
  cases f with
  | next => cases r2;obtain ⟨j,hj,hm,hl⟩ := h2;exact ⟨_,hm,j,T2,rfl,hj,eT,H2.le hl⟩
  | cont => cases r2;obtain ⟨j,hj,hm,hl⟩ := h2;exact ⟨_,hm,j,T2,rfl,hj,eT,H2.le hl⟩
  | brk => cases r2;exact k .next _ σ2 T2 s2 eT H2 rfl h2
  | ret v => obtain ⟨w,rfl,r⟩ := r2;exact k (.ret v) _ σ2 T2 s2 eT H2 ⟨w,rfl,r⟩ h2
noncomputable def ForOK (c : Cx) (target : Expr) (body : List Stmt) (av : AV) (σ : St) (Φ : AFl → St → Prop) : Prop :=
 ∀ T fr s v Q,Holds c σ T fr s → VR T av v → Cont c FlR T fr Φ Q →
  wpS c.cb c.M c.A (pyIter v) (fun it s1 => codeS c.cb c.M c.A (.forLoop target it body [] c.env) (fun r s' => match r with | .ok f => Q f s' | .error _ => False) s1) s
theorem exec_For_eq (target iter body orelse pos) (env : Env) : exec (.For target iter body orelse pos) env = (do
  standAt pos
  let x ← foldedSetIterable iter env (← eval iter env)
  standAt iter.pos
  runOwn (.forLoop target (← holding [x] (pyIter x)) body orelse env) env) := rfl
theorem ϱP {c : Cx} {σ : St} {target iter body pos} {Φ : AFl → St → Prop} (h : WE c iter σ fun av σ1 => ForOK c target body av σ1 Φ)
  (hs : ∀ x,foldedSetIterable iter c.env x = pure x := by intro _;rfl) : WS c (.For target iter body [] pos) σ Φ := fun T fr s Q H k => by
 rw [exec_For_eq]
 refine ϰb (ϰp (ϰb (h T fr s _ H fun av v σ1 T1 s1 e1 H1 r1 h1 => ?_)))
 rw [hs]
 refine ϰb (ϰn (ϰb (ϰp (ϰb (ϰo ?_)))))
 refine ϰk (h1 T1 fr s1 v Q H1 r1 (k.ext e1)) (fun it s2 h2 => ?_)
 refine S_runOwn rfl (codeS_mono h2 fun r s' hr => ?_)
 cases r with
 | ok f => exact hr
 | error e => exact hr.elim
noncomputable def WTg (c : Cx) (target : Expr) (av : AV) (σ : St) (Ψ : St → Prop) : Prop :=
 ∀ T fr s v I o Q,Holds c σ T fr s → VR T av v → s.heap.get? I = some o → o.cls = .type "list_iterator" ∨ o.cls = .type "range_iterator" ∨ o.cls = .type "bytes_iterator" →
  (∀ σ' T' s',Ext T T' → Holds c σ' T' fr s' → Ψ σ' → Q () s') →
  wpS c.cb c.M c.A (letOwnedTupleGo target (.ref I) v) (fun _ s1 => wpS c.cb c.M c.A (assign target c.env v) Q s1) s
theorem ϰba (x px) (env : Env) (v : Value) : assign (.Name x px) env v = (do standAt px;bindName env x v) := rfl
theorem ϱh {c : Cx} {σ : St} {x px} {av : AV} {loc' : List (Str × Option AV)} {Ψ : St → Prop} (hs : SetL x av σ.loc loc') (h : Ψ { σ with loc := loc' }) : WTg c (.Name x px) av σ Ψ := fun T fr s v I o Q H r _ _ k => by
 refine ϰn (a := ()) ?_
 rw [ϰba]
 exact ϰb (ϰp (ϰaX (H.store hs r fun h' tk' H' => k _ T _ (.refl T) H' h)))
noncomputable def forK {ι : Type} (P : Nat → ι → Prop) (J : Nat → ι → St) (k : Nat) (Φ : AFl → St → Prop) : AFl → St → Prop
 | .next,σ => ∃ d,P (k + 1) d ∧ Le σ (J (k + 1) d)
 | .cont,σ => ∃ d,P (k + 1) d ∧ Le σ (J (k + 1) d)
 | .brk,σ => Φ .next σ
 | .ret v,σ => Φ (.ret v) σ
theorem forCore {c : Cx} {T fr : Led} {s : Shared} {target body} {Q : Flow → Shared → Prop} {Φ : AFl → St → Prop} {ι : Type} (P : Nat → ι → Prop) (J : Nat → ι → St) (n : Nat) (I : Addr) (O : Nat → Obj → Prop)
  (item : Nat → ι → AV) {o0 : Obj} {i0 : ι} (hO : O 0 o0) (h0 : P 0 i0) (H : Holds c (J 0 i0) T ((I,o0) :: fr) s) (k : Cont c FlR T fr Φ Q)
  (cls : ∀ i o,O i o → o.cls = .type "list_iterator" ∨ o.cls = .type "range_iterator" ∨ o.cls = .type "bytes_iterator")
  (next : ∀ i d T' o s' (Q' : Option Value → Shared → Prop),i < n → P i d → Holds c (J i d) T' ((I,o) :: fr) s' → O i o →
   (∀ v h' tk o',VR T' (item i d) v → (∀ b x,b ≠ I → s'.heap.get? b = some x → h'.get? b = some x) → h'.get? I = some o' → O (i + 1) o' → Q' (some v) { s' with heap := h',toks := tk }) → wpS c.cb c.M c.A (pyNext (.ref I)) Q' s')
  (stop : ∀ d T' o s' (Q' : Option Value → Shared → Prop),P n d → Holds c (J n d) T' ((I,o) :: fr) s' → O n o →
   (∀ h' tk,(∀ b x,b ≠ I → s'.heap.get? b = some x → h'.get? b = some x) → Q' none { s' with heap := h',toks := tk }) → wpS c.cb c.M c.A (pyNext (.ref I)) Q' s')
  (turn : ∀ i d,i < n → P i d → WTg c target (item i d) (J i d) fun σ1 => WSs c body σ1 (forK P J i Φ))
  (done : ∀ d,P n d → Φ .next (J n d)) :
  codeS c.cb c.M c.A (.forLoop target (.ref I) body [] c.env) (fun r s' => match r with | .ok f => Q f s' | .error _ => False) s := by
 refine codeS_forLoop (fun m s' => ∃ i d T' o,m = n - i ∧ i ≤ n ∧ P i d ∧ Ext T T' ∧ O i o ∧ Holds c (J i d) T' ((I,o) :: fr) s') ?_ n ⟨0,i0,T,o0,rfl,Nat.zero_le _,h0,.refl T,hO,H⟩
 rintro m s' ⟨i,d,T',o,rfl,hin,hP,eT,hOi,H'⟩
 by_cases hi : i < n
 ·refine (next i d T' o s' _ hi hP H' hOi fun v h' tk o' rv hk ho' hO' => ?_)
  have H1 := H'.setFr hk ho' tk
  dsimp only
  refine (ϰk (turn i d hi hP T' _ _ v I o' _ H1 rv ho' (cls _ _ hO') fun σ2 T2 s2 e2 H2 h2 => ?_) (fun _ s2 h2 => h2))
  refine (h2 T2 _ s2 _ H2 fun f fl σ3 T3 s3 e3 H3 r3 h3 => ?_)
  have e' := (eT.trans e2).trans e3
  cases f with
  | next => cases r3;obtain ⟨d',hd,hl⟩ := h3;exact ⟨n - (i + 1),by exact κ2 [] [_,_,_,_] (.Lt ν0 ν1) (.Eq (.a ν0 (.a ν2 (.n 1))) ν3) (.Eq (.a ν1 ν2) ν3) [1,1,-1] (Nat.sub_add_cancel (Nat.succ_le_of_lt hi)) (Nat.sub_add_cancel (Nat.le_of_lt hi)) rfl,i + 1,d',T3,o',rfl,by exact Nat.succ_le_of_lt hi,hd,e',hO',H3.le hl⟩
  | cont => cases r3;obtain ⟨d',hd,hl⟩ := h3;exact ⟨n - (i + 1),by exact κ2 [] [_,_,_,_] (.Lt ν0 ν1) (.Eq (.a ν0 (.a ν2 (.n 1))) ν3) (.Eq (.a ν1 ν2) ν3) [1,1,-1] (Nat.sub_add_cancel (Nat.succ_le_of_lt hi)) (Nat.sub_add_cancel (Nat.le_of_lt hi)) rfl,i + 1,d',T3,o',rfl,by exact Nat.succ_le_of_lt hi,hd,e',hO',H3.le hl⟩
  | brk => cases r3;exact k .next _ σ3 T3 s3 e' H3.dropFr rfl h3
  | ret v => obtain ⟨w,rfl,r⟩ := r3;exact k (.ret v) _ σ3 T3 s3 e' H3.dropFr ⟨w,rfl,r⟩ h3
 ·obtain rfl : i = n := by exact Nat.le_antisymm (ω1 [] [_,_] (.Le ν0 ν1) (.Le ν0 ν1) hin rfl) (Nat.not_lt.mp hi)
  refine (stop d T' o s' _ hP H' hOi fun h' tk hk => ?_)
  exact ϰbh (k .next _ _ T' _ eT (H'.exitFr hk tk) rfl (done d hP))
end Mine
namespace Mine
theorem VR.int_inv {T : Led} {i : Int} {v : Value} (h : VR T (.int i) v) : ∃ t,v = .int i t := h
theorem VR.bool_inv {T : Led} {b : Bool} {v : Value} (h : VR T (.bool b) v) : v = .bool b := h
theorem VR.none_inv {T : Led} {v : Value} (h : VR T .none v) : v = .none := h
theorem VR.ref_inv {T : Led} {a : Addr} {v : Value} (h : VR T (.ref a) v) : v = .ref a := h
theorem VR.raw_inv {T : Led} {w v : Value} (h : VR T (.raw w) v) : v = w := h
theorem VR.str_inv {T : Led} {x : Str} {v : Value} (h : VR T (.str x) v) : ∃ t,v = .str x t := h
theorem VR.bytes_inv {T : Led} {ks : List Int} {v : Value} (h : VR T (.bytes ks) v) : ∃ b t,v = .bytes b t ∧ KBw.bInts b = ks := h
theorem VR.tup_inv {T : Led} {l : List AV} {v : Value} (h : VR T (.tup l) v) : ∃ a vs n,v = .ref a ∧ (a,tupO vs n) ∈ T ∧ VRs T l vs := h
theorem bInts_inj {b c : Array UInt8} (h : KBw.bInts b = KBw.bInts c) : b = c := by
 apply Array.toList_inj.mp
 unfold KBw.bInts at h
 refine List.map_inj_right (f := fun c : UInt8 => (c.toNat : Int)) (fun x y e => ?_) |>.mp h
 have : x.toNat = y.toNat := by exact_mod_cast e
 exact UInt8.toNat_inj.mp this
section
variable {c : Cx} {σ : St} {a b : Int} {Φ : AV → St → Prop}
theorem ϰX (h : Φ (.int (a + b)) σ) : WBin c .Add (.int a) (.int b) σ Φ := fun T fr s v w Q H r1 r2 k => by
 obtain ⟨t,rfl⟩ := r1.int_inv;obtain ⟨u,rfl⟩ := r2.int_inv
 exact ϰj (add_int (k _ _ σ T _ (.refl T) (H.toks _) .of_int h))
theorem ϰO (h : Φ (.int (a - b)) σ) : WBin c .Sub (.int a) (.int b) σ Φ := fun T fr s v w Q H r1 r2 k => by
 obtain ⟨t,rfl⟩ := r1.int_inv;obtain ⟨u,rfl⟩ := r2.int_inv
 exact ϰj (sub_int (k _ _ σ T _ (.refl T) (H.toks _) .of_int h))
theorem WBin.mul (hm : IntMulOk a b) (h : Φ (.int (a * b)) σ) : WBin c .Mult (.int a) (.int b) σ Φ := fun T fr s v w Q H r1 r2 k => by
 obtain ⟨t,rfl⟩ := r1.int_inv;obtain ⟨u,rfl⟩ := r2.int_inv
 exact ϰj (mul_int (k _ _ σ T _ (.refl T) (H.toks _) .of_int h) hm)
theorem ϰaM (h : Φ (.int (Builtin.bitAnd a b)) σ) : WBin c .BitAnd (.int a) (.int b) σ Φ := fun T fr s v w Q H r1 r2 k => by
 obtain ⟨t,rfl⟩ := r1.int_inv;obtain ⟨u,rfl⟩ := r2.int_inv
 exact ϰj (and_int (k _ _ σ T _ (.refl T) (H.toks _) .of_int h))
theorem WBin.bor (h : Φ (.int (Builtin.bitOr a b)) σ) : WBin c .BitOr (.int a) (.int b) σ Φ := fun T fr s v w Q H r1 r2 k => by
 obtain ⟨t,rfl⟩ := r1.int_inv;obtain ⟨u,rfl⟩ := r2.int_inv
 exact ϰj (or_int (k _ _ σ T _ (.refl T) (H.toks _) .of_int h))
theorem ϱN (h : Φ (.int (Builtin.bitXor a b)) σ) : WBin c .BitXor (.int a) (.int b) σ Φ := fun T fr s v w Q H r1 r2 k => by
 obtain ⟨t,rfl⟩ := r1.int_inv;obtain ⟨u,rfl⟩ := r2.int_inv
 exact ϰj (xor_int (k _ _ σ T _ (.refl T) (H.toks _) .of_int h))
theorem WBin.shl (h0 : 0 ≤ b) (h1 : b ≤ 1000000) (h2 : a.natAbs < 2 ^ 64) (h : Φ (.int (a * 2 ^ b.toNat)) σ) : WBin c .LShift (.int a) (.int b) σ Φ := fun T fr s v w Q H r1 r2 k => by
 obtain ⟨t,rfl⟩ := r1.int_inv;obtain ⟨u,rfl⟩ := r2.int_inv
 exact ϰj (lshift_int_small h0 h1 h2 (k _ _ σ T _ (.refl T) (H.toks _) .of_int h))
theorem pow2_pos (n : Nat) : (0 : Int) < 2 ^ n := Int.pow_pos (by decide)
theorem ϰaB (h0 : 0 ≤ b) (h : Φ (.int (a / 2 ^ b.toNat)) σ) : WBin c .RShift (.int a) (.int b) σ Φ := fun T fr s v w Q H r1 r2 k => by
 obtain ⟨t,rfl⟩ := r1.int_inv;obtain ⟨u,rfl⟩ := r2.int_inv
 refine ϰj (rshift_int h0 (k _ _ σ T _ (.refl T) (H.toks _) .of_int ?_))
 rw [Int.fdiv_eq_ediv_of_nonneg _ (Int.le_of_lt (pow2_pos _))];exact h
theorem ϱx (h0 : 0 < b) (h1 : b < 1073741824) (h : Φ (.int (a / b)) σ) : WBin c .FloorDiv (.int a) (.int b) σ Φ := fun T fr s v w Q H r1 r2 k => by
 obtain ⟨t,rfl⟩ := r1.int_inv;obtain ⟨u,rfl⟩ := r2.int_inv
 refine ϰj (floordiv_int (by exact fun hq => β2 [_] [] (.lt (.n 0) ξ0) (.eq ξ0 (.n 0)) h0 hq rfl) (k _ _ σ T _ (.refl T) (H.toks _) .of_int ?_) (.inl (PyProof.noPylong_small (by exact ω2 [_] [_] (.Lt ν0 (.n 1073741824)) (.lt ξ0 (.n 1073741824)) (.eq (.c ν0) ξ0) h1 (Int.natAbs_of_nonneg (ω1 [_] [] (.le (.n 0) ξ0) (.lt (.n 0) ξ0) h0 rfl)) rfl))))
 rw [Int.fdiv_eq_ediv_of_nonneg _ (Int.le_of_lt h0)];exact h
theorem ϰC (h0 : 0 < b) (h : Φ (.int (a % b)) σ) : WBin c .Mod (.int a) (.int b) σ Φ := fun T fr s v w Q H r1 r2 k => by
 obtain ⟨t,rfl⟩ := r1.int_inv;obtain ⟨u,rfl⟩ := r2.int_inv
 refine ϰj (mod_int' (by exact fun hq => β2 [_] [] (.lt (.n 0) ξ0) (.eq ξ0 (.n 0)) h0 hq rfl) (k _ _ σ T _ (.refl T) (H.toks _) .of_int ?_))
 rw [Int.fmod_eq_emod_of_nonneg _ (Int.le_of_lt h0)];exact h
theorem ϰL (h : Φ (.int (a + b)) σ) : WIn c .Add (.int a) (.int b) σ Φ := fun T fr s v w Q H r1 r2 k => by
 obtain ⟨t,rfl⟩ := r1.int_inv;obtain ⟨u,rfl⟩ := r2.int_inv
 exact ϰj (iadd_int (k _ _ σ T _ (.refl T) (H.toks _) .of_int h))
theorem WIn.bxor (h : Φ (.int (Builtin.bitXor a b)) σ) : WIn c .BitXor (.int a) (.int b) σ Φ := fun T fr s v w Q H r1 r2 k => by
 obtain ⟨t,rfl⟩ := r1.int_inv;obtain ⟨u,rfl⟩ := r2.int_inv
 exact ϰj (ixor_int (k _ _ σ T _ (.refl T) (H.toks _) .of_int h))
theorem ϰbg (h0 : 0 ≤ b) (h : Φ (.int (a / 2 ^ b.toNat)) σ) : WIn c .RShift (.int a) (.int b) σ Φ := fun T fr s v w Q H r1 r2 k => by
 obtain ⟨t,rfl⟩ := r1.int_inv;obtain ⟨u,rfl⟩ := r2.int_inv
 refine ϰj (irshift_int h0 (k _ _ σ T _ (.refl T) (H.toks _) .of_int ?_))
 rw [Int.fdiv_eq_ediv_of_nonneg _ (Int.le_of_lt (pow2_pos _))];exact h
theorem WE.neg {i : Int} {x pos} (h : WE c x σ fun v σ1 => v = .int i ∧ Φ (.int (-i)) σ1) : WE c (.UnaryOp .USub x pos) σ Φ := fun T fr s Q H k =>
 S_UnaryOp (h T fr s _ H fun _a va σ1 T1 s1 e1 H1 r1 h1 => by
  obtain ⟨rfl,h2⟩ := h1
  obtain ⟨t,rfl⟩ := r1.int_inv
  exact ϰj (neg_int (k _ _ σ1 T1 _ e1 (H1.toks _) .of_int h2)))
theorem ϰaj (h : Φ (.bool (decide (a = b))) σ) : WCmp c .Eq (.int a) (.int b) σ Φ := fun T fr s v w Q H r1 r2 k => by
 obtain ⟨t,rfl⟩ := r1.int_inv;obtain ⟨u,rfl⟩ := r2.int_inv
 exact ϰj (eq_int (k _ _ σ T _ (.refl T) H .of_bool h))
theorem ϱj (h : Φ (.bool (decide (a ≠ b))) σ) : WCmp c .NotEq (.int a) (.int b) σ Φ := fun T fr s v w Q H r1 r2 k => by
 obtain ⟨t,rfl⟩ := r1.int_inv;obtain ⟨u,rfl⟩ := r2.int_inv
 refine ϰj (ne_int (k _ _ σ T _ (.refl T) H .of_bool ?_))
 have : (a != b) = decide (a ≠ b) := by by_cases e : a = b <;> simp [e]
 rw [this];exact h
theorem ϱV (h : Φ (.bool (decide (a < b))) σ) : WCmp c .Lt (.int a) (.int b) σ Φ := fun T fr s v w Q H r1 r2 k => by
 obtain ⟨t,rfl⟩ := r1.int_inv;obtain ⟨u,rfl⟩ := r2.int_inv
 exact ϰj (lt_int (k _ _ σ T _ (.refl T) H .of_bool h))
theorem WCmp.leI (h : Φ (.bool (decide (a ≤ b))) σ) : WCmp c .LtE (.int a) (.int b) σ Φ := fun T fr s v w Q H r1 r2 k => by
 obtain ⟨t,rfl⟩ := r1.int_inv;obtain ⟨u,rfl⟩ := r2.int_inv
 exact ϰj (le_int (k _ _ σ T _ (.refl T) H .of_bool h))
theorem ϱW (h : Φ (.bool (decide (b < a))) σ) : WCmp c .Gt (.int a) (.int b) σ Φ := fun T fr s v w Q H r1 r2 k => by
 obtain ⟨t,rfl⟩ := r1.int_inv;obtain ⟨u,rfl⟩ := r2.int_inv
 exact ϰj (gt_int (k _ _ σ T _ (.refl T) H .of_bool h))
theorem WCmp.geI (h : Φ (.bool (decide (b ≤ a))) σ) : WCmp c .GtE (.int a) (.int b) σ Φ := fun T fr s v w Q H r1 r2 k => by
 obtain ⟨t,rfl⟩ := r1.int_inv;obtain ⟨u,rfl⟩ := r2.int_inv
 exact ϰj (ge_int (k _ _ σ T _ (.refl T) H .of_bool h))
theorem WCmp.neB {p q : Bool} (h : Φ (.bool (decide (p ≠ q))) σ) : WCmp c .NotEq (.bool p) (.bool q) σ Φ := fun T fr s v w Q H r1 r2 k => by
 obtain rfl := r1.bool_inv;obtain rfl := r2.bool_inv
 refine ϰj (ne_bool (k _ _ σ T _ (.refl T) H .of_bool ?_))
 have : (p != q) = decide (p ≠ q) := by cases p <;> cases q <;> rfl
 rw [this];exact h
theorem WCmp.neY {p q : List Int} (h : Φ (.bool (decide (p ≠ q))) σ) : WCmp c .NotEq (.bytes p) (.bytes q) σ Φ := fun T fr s v w Q H r1 r2 k => by
 obtain ⟨x,t,rfl,rfl⟩ := r1.bytes_inv;obtain ⟨y,u,rfl,rfl⟩ := r2.bytes_inv
 refine ϰj (ne_bytes (k _ _ σ T _ (.refl T) H .of_bool ?_))
 have : (x.toList != y.toList) = decide (KBw.bInts x ≠ KBw.bInts y) := by
  by_cases e : x = y
  ·subst e;simp
  ·have h1 : KBw.bInts x ≠ KBw.bInts y := fun q => e (bInts_inj q)
   have h2 : x.toList ≠ y.toList := fun q => e (Array.toList_inj.mp q)
   simp [h1,h2]
 rw [this];exact h
noncomputable def AV.isNone : AV → Bool
 | .none => true
 | .raw v => v == .none
 | _ => false
theorem VR.isNone {T : Led} {a : AV} {v : Value} (h : VR T a v) : (v == .none) = a.isNone := by
 cases a with
 | none => cases h.none_inv;rfl
 | bool b => cases h.bool_inv;rfl
 | int i => obtain ⟨t,rfl⟩ := h.int_inv;rfl
 | bytes k => obtain ⟨b,t,rfl,_⟩ := h.bytes_inv;rfl
 | str x => obtain ⟨t,rfl⟩ := h.str_inv;rfl
 | ref a => cases h.ref_inv;rfl
 | raw w => cases h.raw_inv;rfl
 | tup l => obtain ⟨a,vs,n,rfl,_⟩ := h.tup_inv;rfl
theorem ϰaW {x : AV} (h : Φ (.bool (!x.isNone)) σ) : WCmp c .IsNot x .none σ Φ := fun T fr s v w Q H r1 r2 k => by
 cases r2.none_inv
 refine ϰj (isNot_none (k _ _ σ T _ (.refl T) H .of_bool ?_))
 rw [r1.isNone];exact h
theorem ϱM {b : Array UInt8} {ks : List Int} (h : KBw.bInts b = ks) : b.size = ks.length := by rw [← h];simp [KBw.bInts]
theorem ϰN {p q : List Int} (hz : p.length + q.length ≤ 16777216) (h : Φ (.bytes (p ++ q)) σ) : WBin c .Add (.bytes p) (.bytes q) σ Φ := fun T fr s v w Q H r1 r2 k => by
 obtain ⟨x,t,rfl,hx⟩ := r1.bytes_inv;obtain ⟨y,u,rfl,hy⟩ := r2.bytes_inv
 exact ϰj (KBa.add_K hx hy hz fun t' k' e => k _ _ σ T _ (.refl T) (H.toks _) (.of_bytes e) h)
end
end Mine
namespace Mine
section
variable {c : Cx} {σ : St} {T fr : Led} {s : Shared}
theorem Holds.kept {m : Str → Option Value} {L : Led} (H : Holds c σ T fr s) (hl : LocR c T σ.loc m) (ho : Owns c.w.params T σ.hp L) (nd : ((L ++ (T ++ fr)).map (·.1)).Nodup)
  {h' : Heap} (F : Fr c.h0 c.L h' m) (N : News c.h0 c.L h' (L ++ (T ++ fr))) (k : Nat) : Holds c σ T fr { s with heap := h',toks := k } :=
 ⟨⟨m,F,hl⟩,H.nd,⟨L,ho,N,nd⟩,by rw [H.rest]⟩
theorem ϱq {x : Addr} {o : Obj} {l : Led} (nd : (l.map (·.1)).Nodup) (lt : ∀ p ∈ l,p.1 < x) : (((x,o) :: l).map (·.1)).Nodup := by
 rw [List.map_cons,List.nodup_cons]
 refine ⟨fun hm => ?_,nd⟩
 obtain ⟨p,hp,e⟩ := List.mem_map.mp hm
 exact absurd (lt p hp) (by rw [e];exact Nat.lt_irrefl _)
theorem Holds.made {m : Str → Option Value} {L : Led} (H : Holds c σ T fr s) (hl : LocR c T σ.loc m) (ho : Owns c.w.params T σ.hp L) (nd : ((L ++ (T ++ fr)).map (·.1)).Nodup)
  {h' : Heap} {x : Addr} {o : Obj} {ao : AO} (r : OR c.w.params T x ao [(x,o)]) (lt : ∀ p ∈ L ++ (T ++ fr),p.1 < x) (F : Fr c.h0 c.L h' m) (N : News c.h0 c.L h' ((x,o) :: (L ++ (T ++ fr)))) (k : Nat) :
  Holds c { σ with hp := (x,ao) :: σ.hp } T fr { s with heap := h',toks := k } :=
 ⟨⟨m,F,hl⟩,H.nd,⟨(x,o) :: L,Owns.put (l := [(x,o)]) r ho,N,ϱq nd lt⟩,by rw [H.rest]⟩
theorem Holds.madeT {m : Str → Option Value} {L : Led} (H : Holds c σ T fr s) (hl : LocR c T σ.loc m) (ho : Owns c.w.params T σ.hp L) (nd : ((L ++ (T ++ fr)).map (·.1)).Nodup)
  {h' : Heap} {x : Addr} {o : Obj} (lt : ∀ p ∈ L ++ (T ++ fr),p.1 < x) (F : Fr c.h0 c.L h' m) (N : News c.h0 c.L h' ((x,o) :: (L ++ (T ++ fr)))) (k : Nat) :
  Holds c σ ((x,o) :: T) fr { s with heap := h',toks := k } := by
 have hs : ∀ p ∈ T,p ∈ (x,o) :: T := fun p hp => .tail _ hp
 have e : ((x,o) :: (L ++ (T ++ fr))).Perm (L ++ (((x,o) :: T) ++ fr)) := List.perm_middle.symm
 exact ⟨⟨m,F,fun y p hm => ⟨(hl y p hm).1,fun av e => let ⟨v,h1,h2⟩ := (hl y p hm).2 av e;⟨v,h1,h2.mono hs⟩⟩⟩,H.nd,⟨L,ho.mono hs,News.perm N e,(e.map (·.1)).nodup_iff.mp (ϱq nd lt)⟩,by rw [H.rest]⟩
theorem Holds.lt_size {L : Led} (N : News c.h0 c.L s.heap (L ++ (T ++ fr))) : ∀ p ∈ L ++ (T ++ fr),p.1 < s.heap.objs.size := fun p hp => Heap.lt_size (N p hp).1
variable {Φ : AV → St → Prop}
theorem ϰF {elts pos} (h : WEs c pos elts σ fun as σ1 => as.length ≤ 16777216 ∧ ∀ l,Φ (.ref l) { σ1 with hp := (l,.list as) :: σ1.hp }) : WE c (.List elts pos) σ Φ := fun T fr s Q H k =>
 S_List (h T fr s _ H fun as vs σ1 T1 s1 e1 H1 r1 h1 => by
  obtain ⟨m,F,hl⟩ := H1.fr_
  obtain ⟨L,ho,N,nd⟩ := H1.own
  refine ϰj (newList_K F N (fun l h' F' N' lt => ?_) (by rw [r1.length];exact h1.1))
  exact k _ _ _ T1 _ e1 (H1.made hl ho nd (ao := .list as) ⟨vs,0,rfl,r1⟩ lt F' N' _) .of_ref (h1.2 l))
theorem ϰG {elts n pos} (h : WEs c pos elts σ fun as σ1 => as.length ≤ 16777216 ∧ Φ (.tup as) σ1) : WE c (.Tuple elts n pos) σ Φ := fun T fr s Q H k =>
 S_Tuple (h T fr s _ H fun as vs σ1 T1 s1 e1 H1 r1 h1 => by
  obtain ⟨m,F,hl⟩ := H1.fr_
  obtain ⟨L,ho,N,nd⟩ := H1.own
  refine ϰj (newTuple_N F N (fun h' F' N' => ?_) (by rw [r1.length];exact h1.1))
  have hs : ∀ p ∈ T1,p ∈ (s1.heap.objs.size,tupO vs 0) :: T1 := fun p hp => .tail _ hp
  refine k _ _ _ ((s1.heap.objs.size,tupO vs 0) :: T1) _ (e1.trans ⟨[_],rfl⟩) (H1.madeT hl ho nd (Holds.lt_size N) F' N' _) ?_ h1.2
  exact Exists.intro _ ⟨vs,0,rfl,.head _,r1.mono hs⟩)
noncomputable def WSub (c : Cx) (value idx : Expr) (a b : AV) (σ : St) (Φ : AV → St → Prop) : Prop := WV2 c (subscriptTail value idx) a b σ Φ
theorem ϰI {value idx pos} (h : WE c value σ fun a σ1 => WE c idx σ1 fun b σ2 => WSub c value idx a b σ2 Φ) : WE c (.Subscript value idx pos) σ Φ := fun T fr s Q H k =>
 ϰaC (h T fr s _ H fun _a va _σ1 T1 s1 e1 H1 r1 h1 => h1 T1 fr s1 _ H1 fun _b vb _σ2 T2 s2 e2 H2 r2 h2 => h2 T2 fr s2 va vb Q H2 (r1.mono e2.sub) r2 (k.ext (e1.trans e2)))
theorem letTmp_bytes (value : Expr) (b : Array UInt8) (t : Tok) (r : Value) : letTemporaryGo value (.bytes b t) r = pure () := by
 cases value <;> rfl
noncomputable def IdxOK (idx : Expr) : Prop := ∀ o i,subscripted idx false o i = operate [o,i] (getItem o i)
theorem ϰH {value idx} {ks : List Int} {i : Int} (hx : IdxOK idx) (h0 : 0 ≤ i) (h1 : i < ks.length) (hz : ks.length ≤ 16777216)
  (h : 0 ≤ ks.getD i.toNat 0 → ks.getD i.toNat 0 < 256 → Φ (.int (ks.getD i.toNat 0)) σ) : WSub c value idx (.bytes ks) (.int i) σ Φ := fun T fr s v w Q H r1 r2 k => by
 obtain ⟨b,t,rfl,hb⟩ := r1.bytes_inv;obtain ⟨u,rfl⟩ := r2.int_inv
 exact ϰj (KBw.item_K hb (by exact δc hz rfl) h0 h1 (fun t' k' p q => k _ _ σ T _ (.refl T) (H.toks _) .of_int (h p q)) (hx _ _) (letTmp_bytes _ _ _))
theorem Holds.isList {l : Addr} {as : List AV} {rest : List (Addr × AO)} (H : Holds c σ T fr s) (pk : Pick (l,.list as) σ.hp rest) : ∃ vs,s.heap.IsList l vs.toArray ∧ VRs T as vs := by
 obtain ⟨L,L',⟨vs,n,rfl,r⟩,_,N,_⟩ := H.pick pk
 exact ⟨vs,⟨_,(N (l,listOf vs.toArray n) (by simp)).1,rfl,n,rfl⟩,r⟩
theorem WSub.list {value idx} {l : Addr} {as : List AV} {rest : List (Addr × AO)} {i : Int} {av : AV} (pk : Pick (l,.list as) σ.hp rest) (hx : IdxOK idx) (h0 : 0 ≤ i) (h1 : i < 1152921504606846976) (hi : as[i.toNat]? = some av) (h : Φ av σ) :
  WSub c value idx (.ref l) (.int i) σ Φ := fun T fr s v w Q H r1 r2 k => by
 cases r1.ref_inv;obtain ⟨u,rfl⟩ := r2.int_inv
 obtain ⟨vs,hl,r⟩ := H.isList pk
 obtain ⟨x,hx',rx⟩ := r.get hi
 exact ϰj (tail_any hl.typeIs slot_list_getitem.lookup (wpAny_getItem_list hl h0 (by exact δi h1 rfl) (by simpa using hx') (k _ _ σ T _ (.refl T) H rx h)) (hx _ _))
theorem Holds.isTup {l : List AV} {v : Value} (H : Holds c σ T fr s) (r : VR T (.tup l) v) : ∃ a vs,v = .ref a ∧ IsTup s.heap a vs.toArray ∧ VRs T l vs := by
 obtain ⟨a,vs,n,rfl,hm,hr⟩ := r.tup_inv
 obtain ⟨L,ho,N,nd⟩ := H.own
 exact ⟨a,vs,rfl,⟨_,(N _ (List.mem_append_right _ (List.mem_append_left _ hm))).1,rfl,n,rfl⟩,hr⟩
theorem seqIndex_nat (i n : Nat) (h : i < n) : seqIndex? (i : Int) n = some i := by
 unfold seqIndex?
 simp
 omega
theorem ϱU {value idx} {l : List AV} {i : Int} {av : AV} (hx : IdxOK idx) (h0 : 0 ≤ i) (h1 : i < 1152921504606846976) (hi : l[i.toNat]? = some av) (h : Φ av σ) : WSub c value idx (.tup l) (.int i) σ Φ := fun T fr s v w Q H r1 r2 k => by
 obtain ⟨a,vs,rfl,ht,r⟩ := H.isTup r1
 obtain ⟨u,rfl⟩ := r2.int_inv
 obtain ⟨x,hx',rx⟩ := r.get hi
 have hlt : i.toNat < vs.length := by
  have := (List.getElem?_eq_some_iff.mp hx').1;exact this
 have e : ((i.toNat : Nat) : Int) = i := by exact η2 [_] [_] (.eq (.c ν0) ξ0) (.eq (.c ν0) ξ0) (.le ξ0 (.c ν0)) [1,0,1] [1,1,0] (Int.toNat_of_nonneg (δj h0 rfl)) (Int.self_le_toNat _) rfl
 refine ϰj (item_tupleT ht (by exact δj h0 rfl) (by exact δi h1 rfl) (j := i.toNat) ?_ hx' (k _ _ σ T _ (.refl T) H rx h) (hx _ _))
 have := seqIndex_nat i.toNat vs.length hlt
 rw [e] at this
 exact this
end
end Mine
namespace Mine
noncomputable def cut {α : Type} (l : List α) (lo hi : Option Int) : List α := (l.drop (kms_lo lo l.length)).take (kms_hi hi l.length - kms_lo lo l.length)
theorem clip1 (n : Nat) (x : Int) : clipAt n x = if x < 0 then n - (-x).toNat else min x.toNat n := by
 unfold clipAt
 by_cases h : x < 0
 ·rw [if_pos h,if_pos h]
  obtain ⟨m,hm⟩ := Int.eq_ofNat_of_zero_le (show 0 ≤ -x by exact ω1 [_] [] (.le (.n 0) (.g ξ0)) (.lt ξ0 (.n 0)) h rfl)
  obtain rfl : x = -(m : Int) := by exact η1 [_] [_] (.eq ξ0 (.g (.c ν0))) (.eq (.g ξ0) (.c ν0)) [1,1] [1,-1] hm rfl
  rw [Int.neg_neg,Int.toNat_natCast]
  rcases Nat.le_total m n with q | q
  ·obtain ⟨k,rfl⟩ := Nat.exists_eq_add_of_le q
   rw [show -(m : Int) + ((m + k : Nat) : Int) = (k : Int) by exact η0 [] [_,_] (.eq (.a (.g (.c ν0)) (.c (.a ν0 ν1))) (.c ν1)) [1] [1] rfl,Int.min_eq_left (by exact κ0 [] [_,_] (.le (.c ν0) (.c (.a ν1 ν0))) [1] rfl),Int.max_eq_right (Int.natCast_nonneg k),Int.toNat_natCast,Nat.add_sub_cancel_left]
  ·rw [Int.max_eq_left (Int.le_trans (Int.min_le_left _ _) (by exact ω1 [] [_,_] (.le (.a (.g (.c ν0)) (.c ν1)) (.n 0)) (.Le ν1 ν0) q rfl)),Nat.sub_eq_zero_of_le q];rfl
 ·rw [if_neg h,if_neg h]
  obtain ⟨m,rfl⟩ := Int.eq_ofNat_of_zero_le (Int.not_lt.mp h)
  rcases Nat.le_total m n with q | q
  ·rw [Int.min_eq_left (Int.ofNat_le.mpr q),Int.max_eq_right (Int.natCast_nonneg m),Int.toNat_natCast,Nat.min_eq_left q]
  ·rw [Int.min_eq_right (Int.ofNat_le.mpr q),Int.max_eq_right (Int.natCast_nonneg n),Int.toNat_natCast,Int.toNat_natCast,Nat.min_eq_right q]
theorem clip_lo (n : Nat) (lo : Option Int) : lo.elim 0 (clipAt n) = kms_lo lo n := by
 cases lo with
 | none => rfl
 | some x => exact clip1 n x
theorem clip_hi (n : Nat) (hi : Option Int) : hi.elim n (clipAt n) = kms_hi hi n := by
 cases hi with
 | none => rfl
 | some x => exact clip1 n x
theorem ϰah {α : Type} (l : List α) {y : Int} (h : 0 ≤ y) : cut l none (some y) = l.take y.toNat := by
 have : ¬ y < 0 := by exact Int.not_lt.mpr h
 simp only [cut,kms_lo,kms_hi,this,if_false,List.drop_zero,Nat.sub_zero]
 by_cases e : y.toNat ≤ l.length
 ·rw [Nat.min_eq_left e]
 ·rw [Nat.min_eq_right (by exact δD e),List.take_of_length_le (Nat.le_refl _),List.take_of_length_le (by exact δD e)]
theorem ϱs {α : Type} (l : List α) {x : Int} (h : 0 ≤ x) : cut l (some x) none = l.drop x.toNat := by
 have : ¬ x < 0 := by exact Int.not_lt.mpr h
 simp only [cut,kms_lo,kms_hi,this,if_false]
 by_cases e : x.toNat ≤ l.length
 ·rw [Nat.min_eq_left e,List.take_of_length_le (by rw [List.length_drop];exact Nat.le_refl _)]
 ·rw [Nat.min_eq_right (by exact δD e),Nat.sub_self,List.take_zero,List.drop_of_length_le (by exact δD e)]
theorem cut_run {α : Type} (l : List α) {x y : Int} (h : 0 ≤ x) (h' : 0 ≤ y) : cut l (some x) (some y) = (l.take y.toNat).drop x.toNat := by
 have h1 : ¬ x < 0 := by exact Int.not_lt.mpr h
 have h2 : ¬ y < 0 := by exact Int.not_lt.mpr h'
 simp only [cut,kms_lo,kms_hi,h1,h2,if_false]
 rw [← List.drop_take]
 have e : l.take (min y.toNat l.length) = l.take y.toNat := by
  by_cases e : y.toNat ≤ l.length
  ·rw [Nat.min_eq_left e]
  ·rw [Nat.min_eq_right (by exact δD e),List.take_of_length_le (Nat.le_refl _),List.take_of_length_le (by exact δD e)]
 rw [e]
 by_cases q : x.toNat ≤ l.length
 ·rw [Nat.min_eq_left q]
 ·rw [Nat.min_eq_right (by exact δD q),List.drop_of_length_le (by simp;omega),List.drop_of_length_le (by simp;omega)]
theorem ϰaw (lo hi st pos) (env : Env) : eval (.Slice lo hi st pos) env = (do
  let l ← valueOrNone (evalOpt lo env)
  let u ← holding [l] (valueOrNone (evalOpt hi env))
  let s ← holding [l,u] (valueOrNone (evalOpt st env))
  newFields "slice" [l,u,s]) := rfl
section
variable {c : Cx} {σ : St}
noncomputable def WO (c : Cx) (eo : Option Expr) (σ : St) (Φ : Option Int → St → Prop) : Prop := W c (fun _ o v => IsPart v o) (valueOrNone (evalOpt eo c.env)) σ Φ
theorem ϰK {Φ : Option Int → St → Prop} (h : Φ Option.none σ) : WO c Option.none σ Φ := fun T fr s Q H k => ϰn (k _ _ σ T _ (.refl T) H .none h)
theorem ϰy {e : Expr} {Φ : Option Int → St → Prop} (h : WE c e σ fun a σ1 => ∃ i,a = .int i ∧ Φ (Option.some i) σ1) : WO c (Option.some e) σ Φ := fun T fr s Q H k =>
 h T fr s _ H fun a va σ1 T1 s1 e1 H1 r1 h1 => by
  obtain ⟨i,rfl,h2⟩ := h1
  obtain ⟨t,rfl⟩ := r1.int_inv
  exact k _ _ σ1 T1 s1 e1 H1 (.int i t) h2
variable {Φ : AV → St → Prop}
theorem ϰQ {value lo hi p pos} (h : WE c value σ fun a σ1 => WO c lo σ1 fun x σ2 => WO c hi σ2 fun y σ3 => ∃ ks,a = .bytes ks ∧ ks.length ≤ 16777216 ∧ Φ (.bytes (cut ks x y)) σ3) :
  WE c (.Subscript value (.Slice lo hi none p) pos) σ Φ := fun T fr s Q H k =>
 ϰaC (h T fr s _ H fun a va σ1 T1 s1 e1 H1 r1 h1 => by
  rw [ϰaw]
  refine ϰb (h1 T1 fr s1 _ H1 fun x vx σ2 T2 s2 e2 H2 r2 h2 => ϰb (ϰo (h2 T2 fr s2 _ H2 fun y vy σ3 T3 s3 e3 H3 r3 h3 => ?_)))
  refine ϰb (ϰo (ϰn ?_))
  obtain ⟨ks,rfl,hz,h4⟩ := h3
  obtain ⟨b,t,rfl,hb⟩ := r1.bytes_inv
  refine ϰj (wpAny_newObj_type (E := fun _ _ => False) ?_ (by size_fits))
  obtain ⟨m,F,hl⟩ := H3.fr_
  obtain ⟨L,ho,N,nd⟩ := H3.own
  refine ϰj (KBc.slice_K F N hb r2 r3 hz (fun h' t' k' F' N' e => ?_) rfl (letTmp_bytes _ _ _))
  refine k _ _ σ3 T3 _ ((e1.trans e2).trans e3) (H3.kept hl ho nd F' N' _) (.of_bytes ?_) h4
  rw [e,clip_lo,clip_hi];rfl)
theorem kms_cut {α : Type} (l : List Value) (lo hi : Option Int) : kms_pick l lo hi = cut l lo hi := rfl
theorem VRs.cut {T : Led} {l : List AV} {vs : List Value} (h : VRs T l vs) (lo hi : Option Int) : VRs T (cut l lo hi) (Mine.cut vs lo hi) := by
 unfold Mine.cut
 rw [h.length]
 exact (h.drop _).take _
theorem WE.sliceL {y py lo hi p pos} {l : Addr} (g : GetL y (.ref l) σ.loc) (h : WO c lo σ fun x σ2 => WO c hi σ2 fun y σ3 => ∃ as rest,Pick (l,.list as) σ3.hp rest ∧ as.length ≤ 16777216 ∧ ∀ D,Φ (.ref D) { σ3 with hp := (D,.list (cut as x y)) :: σ3.hp }) :
  WE c (.Subscript (.Name y py) (.Slice lo hi none p) pos) σ Φ := fun T fr s Q H k =>
 ϰaC ((ϰa (pos := py) (Φ := fun a σ1 => a = .ref l ∧ σ1 = σ) g ⟨rfl,rfl⟩) T fr s _ H fun a va σ1 T1 s1 e1 H1 r1 h1 => by
  obtain ⟨rfl,rfl⟩ := h1
  cases r1.ref_inv
  rw [ϰaw]
  refine ϰb (h T1 fr s1 _ H1 fun x vx σ2 T2 s2 e2 H2 r2 h2 => ϰb (ϰo (h2 T2 fr s2 _ H2 fun y vy σ3 T3 s3 e3 H3 r3 h3 => ?_)))
  refine ϰb (ϰo (ϰn ?_))
  obtain ⟨as,rest,pk,hz,h4⟩ := h3
  refine ϰj (wpAny_newObj_type (E := fun _ _ => False) ?_ (by size_fits))
  obtain ⟨m,F,hl⟩ := H3.fr_
  obtain ⟨L,ho,N,nd⟩ := H3.own
  obtain ⟨vs,hls,rs⟩ := H3.isList pk
  refine ϰj (kms_slice_lit F N hls r2 r3 rfl (fun D h' F' N' lt => ?_) rfl (fun r => rfl) (by rw [List.size_toArray,rs.length];exact hz))
  refine k _ _ _ T3 _ ((e1.trans e2).trans e3) (H3.made hl ho nd (ao := .list (Mine.cut as x y)) ⟨_,0,rfl,?_⟩ lt F' N' _) .of_ref (h4 D)
  rw [List.toList_toArray,kms_cut (α := Value)]
  exact rs.cut x y)
theorem Holds.update {T fr : Led} {s : Shared} {a : Addr} {o ao' : AO} {rest : List (Addr × AO)} (H : Holds c σ T fr s) {d : Addr} {ob ob' : Obj} {pre post L' : Led}
  (ho : Owns c.w.params T rest L') (N : News c.h0 c.L s.heap ((pre ++ (d,ob) :: post) ++ (L' ++ (T ++ fr)))) (nd : (((pre ++ (d,ob) :: post) ++ (L' ++ (T ++ fr))).map (·.1)).Nodup)
  (r : OR c.w.params T a ao' (pre ++ (d,ob') :: post)) {h' : Heap} (hs : ∀ b x,b ≠ d → s.heap.get? b = some x → h'.get? b = some x) (hd : h'.get? d = some ob') (k : Nat) :
  Holds c { σ with hp := (a,ao') :: rest } T fr { s with heap := h',toks := k } := by
 obtain ⟨m,F,hl⟩ := H.fr_
 have hd0 := N (d,ob) (by simp)
 have hne : ∀ p ∈ (pre ++ post) ++ (L' ++ (T ++ fr)),p.1 ≠ d := by
  have e : ((pre ++ (d,ob) :: post) ++ (L' ++ (T ++ fr))).Perm ((d,ob) :: ((pre ++ post) ++ (L' ++ (T ++ fr)))) := by
   rw [List.append_assoc,List.append_assoc pre];exact List.perm_middle
  have := (e.map (·.1)).nodup_iff.mp nd
  rw [List.map_cons,List.nodup_cons] at this
  intro p hp q
  exact this.1 (List.mem_map.mpr ⟨p,hp,q⟩)
 refine ⟨⟨m,Fr.changeK F hs hd0.2.1 hd0.2.2,hl⟩,H.nd,⟨(pre ++ (d,ob') :: post) ++ L',Owns.put r ho,fun p hp => ?_,?_⟩,by rw [H.rest]⟩
 ·rw [List.append_assoc] at hp
  by_cases hp' : p ∈ (pre ++ post) ++ (L' ++ (T ++ fr))
  ·have P := N p (by simp only [List.mem_append,List.mem_cons] at hp' ⊢;rcases hp' with (h | h) | h <;> simp [h])
   exact ⟨hs _ _ (hne p hp') P.1,P.2⟩
  ·have : p = (d,ob') := by
    simp only [List.mem_append,List.mem_cons] at hp hp'
    rcases hp with (h | h | h) | h | h | h <;> first | exact h | exact absurd (by simp [h]) hp'
   subst this
   exact ⟨hd,hd0.2⟩
 ·have : ((((pre ++ (d,ob') :: post) ++ L') ++ (T ++ fr)).map (·.1)) = (((pre ++ (d,ob) :: post) ++ (L' ++ (T ++ fr))).map (·.1)) := by simp
  rw [this];exact nd
end
end Mine
namespace Mine
noncomputable def BR (T : Led) : List (Str × AV) → List (Str × Value) → Prop
 | [],bs => bs = []
 |(x,av) :: r,bs => ∃ v bs',bs = (x,v) :: bs' ∧ VR T av v ∧ BR T r bs'
theorem BRn (T : Led) (bs : List (Str × Value)) : BR T [] bs = (bs = []) := rfl
theorem BRc (T : Led) (x : Str) (av : AV) (r : List (Str × AV)) (bs : List (Str × Value)) : BR T ((x,av) :: r) bs = ∃ v bs',bs = (x,v) :: bs' ∧ VR T av v ∧ BR T r bs' := rfl
theorem BR.names {T : Led} : ∀ {as : List (Str × AV)} {bs : List (Str × Value)},BR T as bs → bs.map (·.1) = as.map (·.1)
 | [],_,h => by simp only [BRn,BRc] at h;subst h;rfl
 |(x,av) :: r,_,h => by
  simp only [BRn,BRc] at h
  obtain ⟨v,bs',rfl,_,hr⟩ := h
  simp [hr.names]
theorem BR.mem {T : Led} : ∀ {as : List (Str × AV)} {bs : List (Str × Value)} {x : Str} {av : AV},BR T as bs → (x,av) ∈ as → ∃ v,(x,v) ∈ bs ∧ VR T av v
 | [],_,_,_,_,hm => nomatch hm
 |(y,aw) :: r,_,x,av,h,hm => by
  simp only [BRn,BRc] at h
  obtain ⟨v,bs',rfl,hv,hr⟩ := h
  rcases List.mem_cons.mp hm with e | hm
  ·cases e;exact ⟨v,.head _,hv⟩
  ·obtain ⟨w,h1,h2⟩ := hr.mem hm;exact ⟨w,.tail _ h1,h2⟩
theorem BR.zip {T : Led} : ∀ {names : List Str} {as : List AV} {vs : List Value},VRs T as vs → BR T (names.zip as) (names.zip vs)
 | [],_,_,_ => by simp [BRn,BRc]
 | n :: ns,[],vs,h => by simp only [VRn,VRc] at h;subst h;simp [BRn,BRc]
 | n :: ns,a :: as,vs,h => by
  simp only [VRn,VRc] at h
  obtain ⟨v,r,rfl,hv,hr⟩ := h
  simp only [List.zip_cons_cons,BRn,BRc]
  exact ⟨v,_,rfl,hv,BR.zip hr⟩
theorem ϱR {x : Str} {v : Value} : ∀ {l : List (Str × Value)},(l.map (·.1)).Nodup → (x,v) ∈ l → l.lookup x = some v
 | [],_,hm => nomatch hm
 |(y,w) :: r,nd,hm => by
  rw [List.map_cons,List.nodup_cons] at nd
  rw [List.lookup_cons]
  rcases List.mem_cons.mp hm with e | hm
  ·cases e;simp
  ·have : x ≠ y := fun e => nd.1 (List.mem_map.mpr ⟨(x,v),hm,e⟩)
   have : (x == y) = false := beq_false_of_ne this
   rw [this]
   exact ϱR nd.2 hm
theorem BR.look {T : Led} {as : List (Str × AV)} {bs : List (Str × Value)} {x : Str} {av : AV} (h : BR T as bs) (nd : (as.map (·.1)).Nodup) (hm : (x,av) ∈ as) : ∃ v,bs.reverse.lookup x = some v ∧ VR T av v := by
 obtain ⟨v,h1,h2⟩ := h.mem hm
 refine ⟨v,ϱR ?_ (List.mem_reverse.mpr h1),h2⟩
 rw [List.map_reverse,h.names]
 exact (List.reverse_perm _).nodup_iff.mpr nd
noncomputable def GFact (K : Frag) (x : Str) (av : AV) : Prop := (x == ("__debug__" : Str)) = false ∧
  ((∃ v,nsIn K mainGlobals x = some (some v) ∧ VR [] av v) ∨ (nsIn K mainGlobals x = some none ∧ ∃ v,bootBuiltins x = some v ∧ x ≠ "__name__" ∧ VR [] av v)) ∧
  (∀ v,av = .raw v → keepIn K v = true ∨ v.onHeap = false)
noncomputable def GAll (K : Frag) (G : List (Str × AV)) : Prop := ∀ x av,(x,av) ∈ G → GFact K x av
theorem ϰD {K : Frag} : GAll K [] := fun _ _ h => nomatch h
theorem ϰg {K : Frag} {x : Str} {av : AV} {G : List (Str × AV)} (h : GFact K x av) (hs : GAll K G) : GAll K ((x,av) :: G) := fun y aw hm => by
 rcases List.mem_cons.mp hm with e | hm
 ·cases e;exact h
 ·exact hs y aw hm
theorem callS_plain {b : Bool} {prog : Program} {w : World} {A₀ A : Around} {s : Shared} {base h₀ : Heap} {outer : List Env} {L : Addr} {m : Str → Option Value} {env : Env} {news : List (Addr × Obj)}
  {R : Result → Shared → Prop} {name qual : Str} {params : Arguments} {body : List Stmt} {scope : Scope} {cl : List (Str × Addr)} {dV kV doc pm cdv ct : Value} {an : Option Addr} {fo : Obj} {f : Addr} {args : Args} {binds : List (Str × Value)}
  (B : Below A₀ base outer h₀) (F : Fr h₀ L s.heap m) (N : News h₀ L s.heap news) (hlim : h₀.NoLimit) (hA : A.frames = some (env :: outer)) (hf : env.frame = some L) (hke : env.scope.kind = .function)
  (ho : s.heap.get? f = some fo) (hd : fo.data = .func (fnX name qual params body scope cl dV kV doc pm an cdv ct)) (hcd : s.heap.CodeRec cdv qual) (hroom : A.depth < recursionLimit)
  (hbind : BindsTo s (fnX name qual params body scope cl dV kV doc pm an cdv ct) args binds) (hloc : ∀ y ∈ binds,scope.names.lookup y.1 = some .local)
  (h : ∀ g L' h₁,Fr h₀ L g m → Fr g L' h₁ (fun y => binds.reverse.lookup y) → News g L' h₁ news → Below A base (env :: outer) g → h₀.StaysIn g → (∀ p ∈ news,p.1 < L') →
   wpS b (model prog w) (A.deeper (envX qual scope L' f cdv cl)) (execs body (envX qual scope L' f cdv cl))
    (fun fl s' => LeaveK h₀ L m g R (match fl with | .ret v => v | _ => .none) s')
    { s with heap := h₁,toks := s.toks + binds.length })
  (hcell : ∀ x ∈ scope.names,x.2 ≠ .cell) (hco : scope.isCoroutine = false) (hgen : scope.isGenerator = false) (hk : scope.kind = .function) : codeS b (model prog w) A (.call (.ref f) args) R s := by
 obtain ⟨FG,BG,st,lv⟩ := groundX (R := R) B F N hA hf hke
 refine ϱl hroom ho hd hco hgen rfl hcd (hbind _ _ _ _ ?_)
 refine wpAny_newFunctionEnv hcell hloc (fun h₁ hns hsb => ⟨(hlim.keeps F.keep).fresh _ hsb,codeS_func ?_⟩) hk
 have hk₁ : ∀ b o,s.heap.get? b = some o → h₁.get? b = some o := fun b o e => hsb.extBut b o (Nat.ne_of_lt (Heap.lt_size e)) (Heap.get?_push_of_some _ e)
 exact ϰk (h _ s.heap.objs.size h₁ FG ⟨hns,fun b o e => hk₁ b o (of_hideAll _ e),Nat.le_of_eq (hideAll_size _ _)⟩
  (fun p hp => ⟨hk₁ _ _ (N p hp).1,Nat.ne_of_lt (Heap.lt_size (N p hp).1),hideAll_none _ (List.mem_map_of_mem hp)⟩) BG st (fun p hp => Heap.lt_size (N p hp).1)) (fun fl s' hl => lv _ _ hl)
structure Inner (c c' : Cx) (dp un : Nat) (scope : Scope) (cl : List (Str × Addr) → Prop) (G : List (Str × AV)) : Prop where
 cb : c'.cb = c.cb
 prog : c'.prog = c.prog
 w : c'.w = c.w
 K : c'.K = c.K
 p : c'.p = c.p
 dp : c'.dp = dp + 1
 un : c'.un = un + 3
 cs : c'.cs = scope
 cl : cl c'.cl
 glob : c'.glob = G
noncomputable def retK (Φ : AV → List (Addr × AO) → Prop) : AFl → St → Prop
 | .ret av,σ => Φ av σ.hp
 | .next,σ => Φ .none σ.hp
 | _,_ => False
theorem enter {c : Cx} {σ : St} {foot rest : List (Addr × AO)} {f : Addr} {oc : Value} {od : Option Addr} {osl : Array (Option Value)} {name qual : Str} {params : Arguments} {body : List Stmt} {scope : Scope} {dV kV doc pm cdv ct : Value} {an : Option Addr}
  {as : List AV} {args : List (Str × AV)} {more : List Str} {G : List (Str × AV)} {dp un : Nat} {Φ : AV → List (Addr × AO) → Prop}
  (hp : σ.hp.Perm (foot ++ rest)) (ho : c.K.lookup f = some ⟨oc,od,.func (fnOf name qual params body scope dV kV doc pm an cdv ct),osl⟩) (hcd : codeIn c.K cdv qual = true) (hroom : dp < recursionLimit)
  (hb : ∀ T fr s vs,Holds c σ T fr s → VRs T as vs → ∃ binds,BindsTo s (fnOf name qual params body scope dV kV doc pm an cdv ct) ⟨vs,[]⟩ binds ∧ BR T args binds)
  (hnd : (args.map (·.1) ++ more).Nodup) (hloc : ∀ x ∈ args.map (·.1) ++ more,scope.names.lookup x = some .local ∧ (x == ("__debug__" : Str)) = false)
  (hcell : ∀ x ∈ scope.names,x.2 ≠ .cell) (hco : scope.isCoroutine = false) (hgen : scope.isGenerator = false) (hk : scope.kind = .function)
  (hG : GAll c.K G) (hGs : ∀ p ∈ G,scope.names.lookup p.1 = some .globalImplicit)
  (hbody : ∀ c' : Cx,Inner c c' dp un scope (· = []) G → WSs c' body ⟨args.map (fun p => (p.1,some p.2)) ++ more.map (fun x => (x,none)),foot⟩ (retK Φ))
  {T fr : Led} {s : Shared} {vs : List Value} {R : Result → Shared → Prop} (H : Holds c σ T fr s) (r : VRs T as vs)
  (k : ∀ av v hp' T' s',Ext T T' → Holds c ⟨σ.loc,hp' ++ rest⟩ T' fr s' → VR T' av v → Φ av hp' → R (.ok (.ret v)) s') :
  codeS c.cb c.M (ktrTop dp un c.gd c.cn c.cs c.L c.fa c.ccd c.cl c.outer) (.call (.ref f) ⟨vs,[]⟩) R s := by
 obtain ⟨binds,hbind,hbr⟩ := hb T fr s vs H r
 have H0 := H.perm hp
 obtain ⟨m,F,hl⟩ := H0.fr_
 obtain ⟨L,ho',N,nd⟩ := H0.own
 obtain ⟨L1,L2,ho1,ho2,rfl⟩ := ho'.split
 have B : Below (ktrTop dp un c.gd c.cn c.cs c.L c.fa c.ccd c.cl c.outer) c.base c.outer c.h0 → True := fun _ => trivial
 refine callS_plain (A₀ := c.A0) (base := c.base) (outer := c.outer) (env := c.env) (cl := []) c.B F N (Top.nolimit c.T) rfl rfl c.hk ((Frag.In.keeps c.X F.keep) _ _ ho) rfl (codeRec_of (Frag.In.keeps c.X F.keep) hcd) hroom hbind ?_
  (fun g L' h₁ FG F' N' B' st lt => ?_) hcell hco hgen hk
 ·intro y hy
  refine (hloc y.1 (List.mem_append_left _ ?_)).1
  rw [← hbr.names];exact List.mem_map_of_mem hy
 let c' : Cx := { c with
  dp := dp + 1,un := un + 3,cn := qual,cs := scope,L := L',fa := f,ccd := cdv,cl := [],outer := c.env :: c.outer,
  A0 := ktrTop dp un c.gd c.cn c.cs c.L c.fa c.ccd c.cl c.outer,h0 := g,glob := G,B := B',X := Frag.In.keeps c.X st,T := Top.keeps c.T st,hk := hk,
  hg := fun x av hm => ⟨hGs _ hm,hG x av hm⟩ }
 have W0 := hbody c' ⟨rfl,rfl,rfl,rfl,rfl,rfl,rfl,rfl,rfl,rfl⟩
 refine (W0 T (L2 ++ fr) _ _ ?_ ?_)
 ·refine ⟨⟨_,F',?_⟩,?_,⟨L1,ho1,?_,?_⟩,?_⟩
  ·intro x o hm
   have hx : x ∈ args.map (·.1) ++ more := by
    rcases List.mem_append.mp hm with q | q
    ·obtain ⟨p,hp1,e⟩ := List.mem_map.mp q;cases e;exact List.mem_append_left _ (List.mem_map_of_mem hp1)
    ·obtain ⟨p,hp1,e⟩ := List.mem_map.mp q;cases e;exact List.mem_append_right _ hp1
   refine ⟨hloc x hx,fun av e => ?_⟩
   subst e
   rcases List.mem_append.mp hm with q | q
   ·obtain ⟨p,hp1,e⟩ := List.mem_map.mp q
    cases e
    exact hbr.look (List.nodup_append.mp hnd).1 hp1
   ·obtain ⟨p,hp1,e⟩ := List.mem_map.mp q;cases e
  ·show (List.map (·.1) (args.map (fun p => (p.1,some p.2)) ++ more.map (fun x => (x,none)))).Nodup
   rw [List.map_append,List.map_map,List.map_map]
   show (List.map (fun p : Str × AV => p.1) args ++ List.map (fun x : Str => x) more).Nodup
   rw [List.map_id'];exact hnd
  ·refine News.perm N' ?_
   rw [List.append_assoc]
   refine List.Perm.append_left L1 ?_
   rw [← List.append_assoc,← List.append_assoc]
   exact List.Perm.append_right _ List.perm_append_comm
  ·have e : (L1 ++ L2 ++ (T ++ fr)).Perm (L1 ++ (T ++ (L2 ++ fr))) := by
    rw [List.append_assoc]
    refine List.Perm.append_left L1 ?_
    rw [← List.append_assoc,← List.append_assoc]
    exact List.Perm.append_right _ List.perm_append_comm
   exact (e.map (·.1)).nodup_iff.mp nd
  ·show ({ s with heap := h₁,toks := s.toks + binds.length } : Shared) = _
   rw [H.rest]
 ·intro fl f' σ' T' s' e' H' rf hΨ
  obtain ⟨m',F'',hl'⟩ := H'.fr_
  obtain ⟨Lx,hox,N'',nd'⟩ := H'.own
  have fin : ∀ av v,VR T' av v → Φ av σ'.hp → LeaveK c.h0 c.L m g R v s' := fun av v rv hφ => by
   refine ⟨L',m',_,F'',N'',fun Fc Nc => ?_⟩
   refine k av v σ'.hp T' s' e' ⟨⟨m,Fc,fun x o hm => ⟨(hl x o hm).1,fun aw e => let ⟨w',h1,h2⟩ := (hl x o hm).2 aw e;⟨w',h1,h2.mono e'.sub⟩⟩⟩,H.nd,⟨Lx ++ L2,hox.append (ho2.mono e'.sub),?_,?_⟩,?_⟩ rv hφ
   ·refine News.perm Nc ?_
    rw [List.append_assoc]
    refine List.Perm.append_left Lx ?_
    rw [← List.append_assoc,← List.append_assoc]
    exact List.Perm.append_right _ List.perm_append_comm
   ·have e : (Lx ++ (T' ++ (L2 ++ fr))).Perm ((Lx ++ L2) ++ (T' ++ fr)) := by
     rw [List.append_assoc]
     refine List.Perm.append_left Lx ?_
     rw [← List.append_assoc,← List.append_assoc]
     exact List.Perm.append_right _ List.perm_append_comm
    exact (e.map (·.1)).nodup_iff.mp nd'
   ·exact H'.rest
  cases fl with
  | next => cases rf;exact fin .none .none .of_none hΨ
  | brk => exact hΨ.elim
  | cont => exact hΨ.elim
  | ret av => obtain ⟨v,rfl,rv⟩ := rf;exact fin av v rv hΨ
end Mine
namespace Mine
theorem bindL_all {kindOf : Str → Option NameKind} : ∀ {binds : List (Str × Value)} {m : Str → Option Value},(∀ p ∈ binds,kindOf p.1 = some .local) → ∀ x,bindL kindOf binds m x = (binds.reverse.lookup x).or (m x)
 | [],m,_,x => by simp [bindL]
 |(n,v) :: r,m,h,x => by
  have hn : kindOf n = some .local := h (n,v) (.head _)
  simp only [bindL,hn,if_true]
  rw [bindL_all (fun p hp => h p (.tail _ hp)) x]
  rw [List.reverse_cons,List.lookup_append]
  cases hq : r.reverse.lookup x with
  | some w => simp
  | none =>
   simp only [Option.none_or,List.lookup_cons,List.lookup_nil]
   by_cases e : x = n
   ·subst e;simp
   ·have : (x == n) = false := beq_false_of_ne e
    simp [this,e]
theorem callS_cells {b : Bool} {prog : Program} {w : World} {A₀ A : Around} {s : Shared} {base h₀ : Heap} {outer : List Env} {L : Addr} {m : Str → Option Value} {env : Env} {news : List (Addr × Obj)}
  {R : Result → Shared → Prop} {name qual : Str} {params : Arguments} {body : List Stmt} {scope : Scope} {dV kV doc pm cdv ct : Value} {an : Option Addr} {fo : Obj} {f : Addr} {args : Args} {binds : List (Str × Value)}
  (B : Below A₀ base outer h₀) (F : Fr h₀ L s.heap m) (N : News h₀ L s.heap news) (hlim : h₀.NoLimit) (hA : A.frames = some (env :: outer)) (hf : env.frame = some L) (hke : env.scope.kind = .function)
  (ho : s.heap.get? f = some fo) (hd : fo.data = .func (fnX name qual params body scope [] dV kV doc pm an cdv ct)) (hcd : s.heap.CodeRec cdv qual) (hroom : A.depth < recursionLimit)
  (hbind : BindsTo s (fnX name qual params body scope [] dV kV doc pm an cdv ct) args binds)
  (hkind : ∀ n,∀ x ∈ binds,scope.names.lookup x.1 = some .local ∨ (scope.names.lookup x.1 = some .cell ∧ ((cellsFrom n scope.names []).lookup x.1).isSome = true))
  (hnd : ((cellsFrom 0 scope.names []).map (·.1)).Nodup)
  (h : ∀ g L' h₁ tk cells,Fr h₀ L g m → Fr g L' h₁ (bindL (envOfC qual scope L' f cdv).kindOf binds fun _ => none) → News g L' h₁ (cells ++ news) →
   CellsAre (bindC (envOfC qual scope L' f cdv).kindOf binds fun _ => none) (cellsFrom (L' + 1) scope.names []) cells → Below A base (env :: outer) g → h₀.StaysIn g → (∀ p ∈ news,p.1 < L') →
   wpS b (model prog w) (A.deeper (envOfC qual scope L' f cdv)) (execs body (envOfC qual scope L' f cdv))
    (fun fl s' => LeaveK h₀ L m g R (match fl with | .ret v => v | _ => .none) s')
    { s with heap := h₁,toks := tk })
  (hco : scope.isCoroutine = false) (hgen : scope.isGenerator = false) (hk : scope.kind = .function) : codeS b (model prog w) A (.call (.ref f) args) R s := by
 obtain ⟨FG,BG,st,lv⟩ := groundX (R := R) B F N hA hf hke
 refine ϱl hroom ho hd hco hgen rfl hcd (hbind _ _ _ _ ?_)
 refine wpAny_newFunctionEnv_cells hk (hkind _) fun env' he s' x => ?_
 subst he
 refine ⟨(hlim.keeps F.keep).keeps x.toInCall.keep,codeS_func ?_⟩
 obtain ⟨h₁,tk,rfl,_⟩ := x.done
 have hk₁ := x.toInCall.keep
 obtain ⟨cells,NC,Y⟩ := Cl.news (h₀ := s.heap) (Nat.le_refl _) fun n c hm => ⟨x.cell n c (lookup_of_mem_nodup (cellsFrom_names scope.names 0 (s.heap.objs.size + 1) [] [] rfl ▸ hnd) hm),x.above n c hm⟩
 refine ϰk (h _ s.heap.objs.size h₁ tk cells FG ⟨x.toInCall.ns,fun b o e => hk₁ b o (of_hideAll _ e),Nat.le_of_eq (hideAll_size _ _)⟩ (fun p hp => ?_) Y BG st (fun p hp => Heap.lt_size (N p hp).1)) (fun fl s' hl => lv _ _ hl)
 rcases List.mem_append.mp hp with hp | hp
 ·refine ⟨(NC p hp).1,(NC p hp).2.1,?_⟩
  cases q : (hideAll s.heap (news.map (·.1))).get? p.1 with
  | none => rfl
  | some o => have := of_hideAll _ q;rw [(NC p hp).2.2] at this;cases this
 ·exact ⟨hk₁ _ _ (N p hp).1,Nat.ne_of_lt (Heap.lt_size (N p hp).1),hideAll_none _ (List.mem_map_of_mem hp)⟩
theorem enterC {c : Cx} {σ : St} {foot rest : List (Addr × AO)} {f : Addr} {oc : Value} {od : Option Addr} {osl : Array (Option Value)} {name qual : Str} {params : Arguments} {body : List Stmt} {scope : Scope} {dV kV doc pm cdv ct : Value} {an : Option Addr}
  {as : List AV} {args : List (Str × AV)} {more : List Str} {z : Str} {G : List (Str × AV)} {dp un : Nat} {Φ : AV → List (Addr × AO) → Prop}
  (hp : σ.hp.Perm (foot ++ rest)) (ho : c.K.lookup f = some ⟨oc,od,.func (fnOf name qual params body scope dV kV doc pm an cdv ct),osl⟩) (hcd : codeIn c.K cdv qual = true) (hroom : dp < recursionLimit)
  (hb : ∀ T fr s vs,Holds c σ T fr s → VRs T as vs → ∃ binds,BindsTo s (fnOf name qual params body scope dV kV doc pm an cdv ct) ⟨vs,[]⟩ binds ∧ BR T args binds)
  (hnd : (args.map (·.1) ++ more).Nodup) (hloc : ∀ x ∈ args.map (·.1) ++ more,scope.names.lookup x = some .local ∧ (x == ("__debug__" : Str)) = false)
  (hcl : ∀ n,cellsFrom n scope.names [] = [(z,n)]) (hco : scope.isCoroutine = false) (hgen : scope.isGenerator = false) (hk : scope.kind = .function)
  (hG : GAll c.K G) (hGs : ∀ p ∈ G,scope.names.lookup p.1 = some .globalImplicit)
  (hz : z ∉ args.map (·.1))
  (hbody : ∀ (c' : Cx) (ca : Addr),Inner c c' dp un scope (· = [(z,ca)]) G → WSs c' body ⟨args.map (fun p => (p.1,some p.2)) ++ more.map (fun x => (x,none)),(ca,.cell none) :: foot⟩ (retK Φ))
  {T fr : Led} {s : Shared} {vs : List Value} {R : Result → Shared → Prop} (H : Holds c σ T fr s) (r : VRs T as vs)
  (k : ∀ av v hp' T' s',Ext T T' → Holds c ⟨σ.loc,hp' ++ rest⟩ T' fr s' → VR T' av v → Φ av hp' → R (.ok (.ret v)) s') :
  codeS c.cb c.M (ktrTop dp un c.gd c.cn c.cs c.L c.fa c.ccd c.cl c.outer) (.call (.ref f) ⟨vs,[]⟩) R s := by
 obtain ⟨binds,hbind,hbr⟩ := hb T fr s vs H r
 have H0 := H.perm hp
 obtain ⟨m,F,hl⟩ := H0.fr_
 obtain ⟨L,ho',N,nd⟩ := H0.own
 obtain ⟨L1,L2,ho1,ho2,rfl⟩ := ho'.split
 have hbl : ∀ y ∈ binds,scope.names.lookup y.1 = some .local := fun y hy => (hloc y.1 (List.mem_append_left _ (by rw [← hbr.names];exact List.mem_map_of_mem hy))).1
 refine callS_cells (A₀ := c.A0) (base := c.base) (outer := c.outer) (env := c.env) c.B F N (Top.nolimit c.T) rfl rfl c.hk ((Frag.In.keeps c.X F.keep) _ _ ho) rfl (codeRec_of (Frag.In.keeps c.X F.keep) hcd) hroom hbind
  (fun n x hx => .inl (hbl x hx)) (by rw [hcl];simp)
  (fun g L' h₁ tk cells FG F' N' Y B' st lt => ?_) hco hgen hk
 rw [hcl] at Y
 obtain ⟨co,rfl,hcd'⟩ := CellsAre.one Y
 have hcn : bindC (envOfC qual scope L' f cdv).kindOf binds (fun _ => none) z = none := by
  have : ∀ (bs : List (Str × Value)) (mm : Str → Option Value),(∀ y ∈ bs,scope.names.lookup y.1 = some .local) → bindC (envOfC qual scope L' f cdv).kindOf bs mm = mm := by
   intro bs
   induction bs with
   | nil => intro mm _;rfl
   | cons p r ih =>
    intro mm hh
    obtain ⟨n,v⟩ := p
    have hn : (envOfC qual scope L' f cdv).kindOf n = some .local := hh (n,v) (.head _)
    simp only [bindC,hn,if_true]
    exact ih mm fun y hy => hh y (.tail _ hy)
  rw [this binds _ hbl]
 rw [hcn] at hcd'
 let c' : Cx := { c with
  dp := dp + 1,un := un + 3,cn := qual,cs := scope,L := L',fa := f,ccd := cdv,cl := cellsFrom (L' + 1) scope.names [],outer := c.env :: c.outer,
  A0 := ktrTop dp un c.gd c.cn c.cs c.L c.fa c.ccd c.cl c.outer,h0 := g,glob := G,B := B',X := Frag.In.keeps c.X st,T := Top.keeps c.T st,hk := hk,
  hg := fun x av hm => ⟨hGs _ hm,hG x av hm⟩ }
 have W0 := hbody c' (L' + 1) ⟨rfl,rfl,rfl,rfl,rfl,rfl,rfl,rfl,hcl _,rfl⟩
 have ndc : (((L' + 1,co) :: (L1 ++ L2 ++ (T ++ fr))).map (·.1)).Nodup := ϱq nd fun p hp => Nat.lt_succ_of_lt (lt p hp)
 have e0 : ((L' + 1,co) :: (L1 ++ L2 ++ (T ++ fr))).Perm (((L' + 1,co) :: L1) ++ (T ++ (L2 ++ fr))) := by
  rw [List.append_assoc,List.cons_append]
  refine List.Perm.cons _ (List.Perm.append_left L1 ?_)
  rw [← List.append_assoc,← List.append_assoc]
  exact List.Perm.append_right _ List.perm_append_comm
 refine (W0 T (L2 ++ fr) _ _ ?_ ?_)
 ·refine ⟨⟨_,F',?_⟩,?_,⟨(L' + 1,co) :: L1,Owns.put (l := [(L' + 1,co)]) ?_ ho1,?_,?_⟩,?_⟩
  ·intro x o hm
   have hx : x ∈ args.map (·.1) ++ more := by
    rcases List.mem_append.mp hm with q | q
    ·obtain ⟨p,hp1,e⟩ := List.mem_map.mp q;cases e;exact List.mem_append_left _ (List.mem_map_of_mem hp1)
    ·obtain ⟨p,hp1,e⟩ := List.mem_map.mp q;cases e;exact List.mem_append_right _ hp1
   refine ⟨hloc x hx,fun av e => ?_⟩
   subst e
   rcases List.mem_append.mp hm with q | q
   ·obtain ⟨p,hp1,e⟩ := List.mem_map.mp q
    cases e
    obtain ⟨v,h1,h2⟩ := hbr.look (List.nodup_append.mp hnd).1 hp1
    refine ⟨v,?_,h2⟩
    rw [bindL_all (kindOf := (envOfC qual scope L' f cdv).kindOf) hbl,h1];rfl
   ·obtain ⟨p,hp1,e⟩ := List.mem_map.mp q;cases e
  ·show (List.map (·.1) (args.map (fun p => (p.1,some p.2)) ++ more.map (fun x => (x,none)))).Nodup
   rw [List.map_append,List.map_map,List.map_map]
   show (List.map (fun p : Str × AV => p.1) args ++ List.map (fun x : Str => x) more).Nodup
   rw [List.map_id'];exact hnd
  ·exact ⟨co,none,rfl,hcd',trivial⟩
  ·exact News.perm N' e0
  ·exact (e0.map (·.1)).nodup_iff.mp ndc
  ·show ({ s with heap := h₁,toks := tk } : Shared) = _
   rw [H.rest]
 ·intro fl f' σ' T' s' e' H' rf hΨ
  obtain ⟨m',F'',hl'⟩ := H'.fr_
  obtain ⟨Lx,hox,N'',nd'⟩ := H'.own
  have fin : ∀ av v,VR T' av v → Φ av σ'.hp → LeaveK c.h0 c.L m g R v s' := fun av v rv hφ => by
   refine ⟨L',m',_,F'',N'',fun Fc Nc => ?_⟩
   refine k av v σ'.hp T' s' e' ⟨⟨m,Fc,fun x o hm => ⟨(hl x o hm).1,fun aw e => let ⟨w',h1,h2⟩ := (hl x o hm).2 aw e;⟨w',h1,h2.mono e'.sub⟩⟩⟩,H.nd,⟨Lx ++ L2,hox.append (ho2.mono e'.sub),?_,?_⟩,?_⟩ rv hφ
   ·refine News.perm Nc ?_
    rw [List.append_assoc]
    refine List.Perm.append_left Lx ?_
    rw [← List.append_assoc,← List.append_assoc]
    exact List.Perm.append_right _ List.perm_append_comm
   ·have e : (Lx ++ (T' ++ (L2 ++ fr))).Perm ((Lx ++ L2) ++ (T' ++ fr)) := by
     rw [List.append_assoc]
     refine List.Perm.append_left Lx ?_
     rw [← List.append_assoc,← List.append_assoc]
     exact List.Perm.append_right _ List.perm_append_comm
    exact (e.map (·.1)).nodup_iff.mp nd'
   ·exact H'.rest
  cases fl with
  | next => cases rf;exact fin .none .none .of_none hΨ
  | brk => exact hΨ.elim
  | cont => exact hΨ.elim
  | ret av => obtain ⟨v,rfl,rv⟩ := rf;exact fin av v rv hΨ
end Mine
namespace Mine
section
variable {c : Cx} {σ : St}
theorem kind_of_cs {x : Str} {k : NameKind} (h : c.cs.names.lookup x = some k) : c.env.kindOf x = some k := h
theorem ϱD {z : Str} {ca : Addr} {pos} {av : AV} {rest : List (Addr × AO)} {Φ : AV → St → Prop} (hcl : c.cl = [(z,ca)]) (hk : c.env.kindOf z = some .cell) (pk : Pick (ca,.cell (some av)) σ.hp rest) (h : Φ av σ)
  (hd : (z == ("__debug__" : Str)) = false := by decide) : WE c (.Name z pos) σ Φ := fun T fr s Q H k => by
 obtain ⟨L,L',⟨o,w,rfl,hd',r⟩,_,N,_⟩ := H.pick pk
 cases w with
 | none => exact r.elim
 | some v =>
  exact ϰj (nameX_C (cl := c.cl) N (c := ca) (o := o) (by rw [hcl];simp) (by simp) hd' (k _ _ σ T _ (.refl T) H r h) c.hk hk hd)
theorem updF_of {d : Addr} {o : Obj} {post : Led} (nd : (((d,o) :: post).map (·.1)).Nodup) : UpdF d o ((d,o) :: post) (fun o' => (d,o') :: post) := by
 rw [List.map_cons,List.nodup_cons] at nd
 exact .head fun p hp e => nd.1 (List.mem_map.mpr ⟨p,hp,e⟩)
theorem upd_of {d : Addr} {o o' : Obj} {post : Led} (nd : (((d,o) :: post).map (·.1)).Nodup) : Upd d o o' ((d,o) :: post) ((d,o') :: post) := by
 rw [List.map_cons,List.nodup_cons] at nd
 exact .head fun p hp e => nd.1 (List.mem_map.mpr ⟨p,hp,e⟩)
theorem Holds.set1 {T fr : Led} {s : Shared} {a : Addr} {ao' : AO} {rest : List (Addr × AO)} {m : Str → Option Value} {L' : Led} {o o' : Obj} (H : Holds c σ T fr s) (hl : LocR c T σ.loc m)
  (ho : Owns c.w.params T rest L') (nd : (((a,o) :: (L' ++ (T ++ fr))).map (·.1)).Nodup) (r : OR c.w.params T a ao' [(a,o')])
  {h' : Heap} (F : Fr c.h0 c.L h' m) (N : News c.h0 c.L h' ((a,o') :: (L' ++ (T ++ fr)))) (k : Nat) : Holds c { σ with hp := (a,ao') :: rest } T fr { s with heap := h',toks := k } :=
 ⟨⟨m,F,hl⟩,H.nd,⟨(a,o') :: L',Owns.put (l := [(a,o')]) r ho,N,by simpa using nd⟩,by rw [H.rest]⟩
theorem WS.assignC {z : Str} {ca : Addr} {px value pos} {Φ : AFl → St → Prop} (hcl : c.cl = [(z,ca)]) (hk : c.env.kindOf z = some .cell)
  (h : WE c value σ fun av σ1 => ∃ o rest,Pick (ca,.cell o) σ1.hp rest ∧ Φ .next { σ1 with hp := (ca,.cell (some av)) :: rest })
  (hs : swapsWith value (some (.Name z px)) pos.line c.env = pure false := by rfl) : WS c (.Assign [.Name z px] value pos) σ Φ := fun T fr s Q H k =>
 S_Assign_Name (h T fr s _ H fun av v σ1 T1 s1 e1 H1 r1 h1 => by
  obtain ⟨ov,rest,pk,h2⟩ := h1
  obtain ⟨m,F,hl⟩ := H1.fr_
  obtain ⟨L,L',⟨o,w,rfl,hd',r⟩,ho,N,nd⟩ := H1.pick pk
  refine ϰj (storeX_C (cl := c.cl) F N (c := ca) (o := o) (by rw [hcl];simp) (updF_of nd) hd' (fun h' o' F' N' hd2 => ?_) c.hk hk)
  exact k .next _ _ T1 _ e1 (H1.set1 hl ho nd (ao' := .cell (some av)) ⟨o',some v,rfl,hd2,r1⟩ F' N' _) rfl h2) hs
theorem keeps_any {K : Frag} {M : Model} {f : Value} (hk : keepIn K f = true ∨ f.onHeap = false) (h : Heap) (X : K.In h) : ∃ k,(k = Keeper.frame ∨ k = Keeper.machine ∨ k = Keeper.boundFrame) ∧ Looks M h (keeperOf f) k := by
 rcases hk with hk | hk
 ·exact keeps_K hk h X
 ·refine ⟨.machine,.inr (.inl rfl),?_⟩
  cases f <;> first | exact Looks.of_pure rfl | cases hk
noncomputable def plainArgs (c : Cx) (pos : Pos) (args : List Expr) : Prop := (backTo pos (starEach args c.env)).any (·.1) = false
theorem ϱL {T fr : Led} {s : Shared} {pos : Pos} {f : Value} {first : List Value} {args : List Expr} {Q : Value → Shared → Prop} (hk : keepIn c.K f = true ∨ f.onHeap = false) (hp : plainArgs c pos args)
  {Φ : List AV → St → Prop} (h : WEs c pos args σ Φ) (H : Holds c σ T fr s)
  (k : ∀ as vs σ' T' s',Ext T T' → Holds c σ' T' fr s' → VRs T' as vs → Φ as σ' → wpS c.cb c.M c.A (call f (first ++ vs)) Q s') :
  wpS c.cb c.M c.A (callWith pos f first (backTo pos (starEach args c.env)) []) Q s := by
 refine S_callWith (P := fun h => c.K.In h) hp (fun h X => keeps_any hk h X) (h T fr s _ H fun as vs σ' T' s' e H' r hφ => ⟨?_,k as vs σ' T' s' e H' r hφ⟩)
 obtain ⟨m,F,_⟩ := H'.fr_
 exact Frag.In.keeps c.X F.keep
theorem ϰr {x : Str} {px args pos} {v : Value} {G : List (Str × AV)} {Φ : AV → St → Prop} (hG : c.glob = G) (g : (x,.raw v) ∈ G)
  (h : WEs c pos args σ fun as σ1 => WVs c (.raw v) as σ1 Φ) (hp : plainArgs c pos args := by rfl) : WE c (.Call (.Name x px) args [] pos) σ Φ := fun T fr s Q H k => by
 have hgv := (c.hg x (.raw v) (hG ▸ g)).2.2.2 v rfl
 refine S_Call_Name ((ϱc (pos := px) (Φ := fun a σ1 => a = .raw v ∧ σ1 = σ) hG g ⟨rfl,rfl⟩) T fr s _ H fun a va σ1 T1 s1 e1 H1 r1 h1 => ?_)
 obtain ⟨rfl,rfl⟩ := h1
 cases r1.raw_inv
 refine ϱL hgv hp h H1 fun as vs σ2 T2 s2 e2 H2 r2 h2 => ?_
 exact h2 T2 fr s2 v vs Q H2 .of_raw r2 (k.ext (e1.trans e2))
inductive GetF (x : Str) (av : AV) : List (Str × AV) → Prop
 | head (l) : GetF x av ((x,av) :: l)
 | tail (p) {l} : GetF x av l → GetF x av (p :: l)
inductive SetF (x : Str) (av : AV) : List (Str × AV) → List (Str × AV) → Prop
 | head (o l) : SetF x av ((x,o) :: l) ((x,av) :: l)
 | tail (p) {l l'} : SetF x av l l' → SetF x av (p :: l) (p :: l')
theorem GetF.mem {x : Str} {av : AV} {l : List (Str × AV)} (h : GetF x av l) : (x,av) ∈ l := by
 induction h with
 | head l => exact .head _
 | tail p _ ih => exact .tail _ ih
theorem SetF.names {x : Str} {av : AV} {l l' : List (Str × AV)} (h : SetF x av l l') : l'.map (·.1) = l.map (·.1) := by
 induction h with
 | head o l => rfl
 | tail p _ ih => simp [ih]
theorem SetF.has {x : Str} {av : AV} {l l' : List (Str × AV)} (h : SetF x av l l') : x ∈ l.map (·.1) := by
 induction h with
 | head o l => simp
 | tail p _ ih => simp;exact .inr (by simpa using ih)
theorem ϰap (x y : Str) (t : Tok) : (Value.str x t).isStr y = (x == y) := rfl
theorem FsR.find {P : Params} {T : Led} {x : Str} {av : AV} {fs : List (Str × AV)} (g : GetF x av fs) : ∀ {es : List DictEntry},FsR P T fs es → (fs.map (·.1)).Nodup → ∃ v,getL x es = some (some v) ∧ VR T av v := by
 induction g with
 | head l =>
  intro es h nd
  simp only [FsN,FsC] at h
  obtain ⟨t,v,es',rfl,hv,_⟩ := h
  refine ⟨v,?_,hv⟩
  unfold getL
  simp [ϰap]
 | tail p g ih =>
  intro es h nd
  obtain ⟨y,aw⟩ := p
  simp only [FsN,FsC] at h
  obtain ⟨t,v,es',rfl,hv,hr⟩ := h
  rw [List.map_cons,List.nodup_cons] at nd
  obtain ⟨w,h1,h2⟩ := ih hr nd.2
  refine ⟨w,?_,h2⟩
  have hne : (y == x) = false := beq_false_of_ne fun e => nd.1 (by rw [e];exact List.mem_map.mpr ⟨_,g.mem,rfl⟩)
  unfold getL at h1 ⊢
  rw [List.find?_cons]
  simp only [ϰap,hne]
  split at h1
  ·rename_i e he;rw [he];exact h1
  ·split at h1 <;> cases h1
theorem FsR.any {P : Params} {T : Led} {x : Str} : ∀ {fs : List (Str × AV)} {es : List DictEntry},FsR P T fs es → (es.any (·.key.isStr x) = fs.any (fun p => p.1 == x)) ∧ es.any (·.refKey) = false
 | [],es,h => by simp only [FsN,FsC] at h;subst h;simp
 |(y,aw) :: r,es,h => by
  simp only [FsN,FsC] at h
  obtain ⟨t,v,es',rfl,hv,hr⟩ := h
  obtain ⟨h1,h2⟩ := FsR.any (x := x) hr
  refine ⟨by simp [ϰap,h1],?_⟩
  rw [List.any_cons,h2];rfl
theorem FsR.none {P : Params} {T : Led} {x : Str} {fs : List (Str × AV)} {es : List DictEntry} (h : FsR P T fs es) (hx : x ∉ fs.map (·.1)) : getL x es = some none := by
 obtain ⟨h1,h2⟩ := FsR.any (x := x) h
 have h3 : es.find? (·.key.isStr x) = Option.none := by
  rw [List.find?_eq_none]
  intro e he hq
  have : es.any (·.key.isStr x) = true := List.any_eq_true.mpr ⟨e,he,hq⟩
  rw [h1] at this
  obtain ⟨p,hp,hpx⟩ := List.any_eq_true.mp this
  exact hx (List.mem_map.mpr ⟨p,hp,eq_of_beq hpx⟩)
 unfold getL
 rw [h3]
 simp [h2]
theorem FsR.set {P : Params} {T : Led} {x : Str} {av : AV} {v : Value} (hv : VR T av v) {fs fs' : List (Str × AV)} (g : SetF x av fs fs') (hs : Int) (key : Value) : ∀ {es : List DictEntry},FsR P T fs es → (fs.map (·.1)).Nodup → FsR P T fs' (putL x hs key v es) := by
 induction g with
 | head o l =>
  intro es h nd
  simp only [FsN,FsC] at h
  obtain ⟨t,w,es',rfl,_,hr⟩ := h
  simp only [putL,ϰap,beq_self_eq_true,if_true,FsN,FsC]
  exact ⟨t,v,es',rfl,hv,hr⟩
 | tail p g ih =>
  intro es h nd
  obtain ⟨y,aw⟩ := p
  simp only [FsN,FsC] at h
  obtain ⟨t,w,es',rfl,hw,hr⟩ := h
  rw [List.map_cons,List.nodup_cons] at nd
  have hne : (y == x) = false := beq_false_of_ne fun e => nd.1 (by rw [e];exact g.has)
  simp only [putL,ϰap,hne,Bool.false_eq_true,if_false,FsN,FsC]
  exact ⟨t,w,_,rfl,hw,ih hr nd.2⟩
theorem FsR.add {P : Params} {T : Led} {x : Str} {av : AV} {v : Value} (hv : VR T av v) (tk : Tok) : ∀ {fs : List (Str × AV)} {es : List DictEntry},FsR P T fs es → x ∉ fs.map (·.1) → FsR P T (fs ++ [(x,av)]) (putL x (PyData.keyHash P x) (.str x tk) v es)
 | [],es,h,_ => by
  simp only [FsN,FsC] at h;subst h
  simp only [putL,List.nil_append,FsN,FsC]
  exact ⟨tk,v,[],rfl,hv,rfl⟩
 |(y,aw) :: r,es,h,hx => by
  simp only [FsN,FsC] at h
  obtain ⟨t,w,es',rfl,hw,hr⟩ := h
  have hx' : y ≠ x ∧ x ∉ r.map (·.1) := by
   rw [List.map_cons,List.mem_cons] at hx
   exact ⟨fun e => hx (.inl e.symm),fun e => hx (.inr e)⟩
  have hne : (y == x) = false := beq_false_of_ne hx'.1
  simp only [putL,ϰap,hne,Bool.false_eq_true,if_false,List.cons_append,FsN,FsC]
  exact ⟨t,w,_,rfl,hw,FsR.add hv tk hr hx'.2⟩
theorem FsR.length {P : Params} {T : Led} : ∀ {fs : List (Str × AV)} {es : List DictEntry},FsR P T fs es → es.length = fs.length
 | [],es,h => by simp only [FsN,FsC] at h;subst h;rfl
 |(y,aw) :: r,es,h => by
  simp only [FsN,FsC] at h
  obtain ⟨t,w,es',rfl,hw,hr⟩ := h
  simp [hr.length]
end
end Mine
namespace Mine
structure ClsOK (K : Frag) (C : Addr) (F : List Str) (M : List (Str × Addr)) : Prop where
 get : plainGet K C "" = true
 dict : hasDictIn K C = true
 set : findIn K (.ref C) "__setattr__" = some (some (.builtin "object.__setattr__"))
 over : plainOver K C = true
 fld : ∀ x ∈ F,findIn K (.ref C) x = some none ∧ takerIn K C x = some none
 meth : ∀ x f,(x,f) ∈ M → findIn K (.ref C) x = some (some (.ref f)) ∧ isFn K (.ref f) = true ∧ keepIn K (.ref f) = true
noncomputable def AV.isRaw : AV → Bool
 | .raw _ => true
 | _ => false
theorem VR.handed {T : Led} {a : AV} {v : Value} (h : VR T a v) (hr : a.isRaw = false) : handedIn v = true := by
 cases a with
 | none => cases h.none_inv;rfl
 | bool b => cases h.bool_inv;rfl
 | int i => obtain ⟨t,rfl⟩ := h.int_inv;rfl
 | bytes k => obtain ⟨b,t,rfl,_⟩ := h.bytes_inv;rfl
 | str x => obtain ⟨t,rfl⟩ := h.str_inv;rfl
 | ref a => cases h.ref_inv;rfl
 | raw w => cases hr
 | tup l => obtain ⟨a,vs,n,rfl,_⟩ := h.tup_inv;rfl
section
variable {c : Cx} {σ : St}
theorem Holds.inst {T fr : Led} {s : Shared} {x C : Addr} {fs : List (Str × AV)} {rest : List (Addr × AO)} (H : Holds c σ T fr s) (pk : Pick (x,.inst C fs) σ.hp rest) :
  ∃ d es n L',InstAt s.heap x (instObj C d) C (some (dictOf es n)) ∧ FsR c.w.params T fs es ∧ (fs.map (·.1)).Nodup ∧ Owns c.w.params T rest L' ∧
   News c.h0 c.L s.heap ([(x,instObj C d),(d,dictOf es n)] ++ (L' ++ (T ++ fr))) ∧ (([(x,instObj C d),(d,dictOf es n)] ++ (L' ++ (T ++ fr))).map (·.1)).Nodup := by
 obtain ⟨L,L',⟨d,es,n,rfl,r,ndf⟩,ho,N,nd⟩ := H.pick pk
 exact ⟨d,es,n,L',InstAt.of_news N (by simp) (by simp),r,ndf,ho,N,nd⟩
theorem ϰq {y py} {name : Str} {pos} {x C : Addr} {fs : List (Str × AV)} {rest : List (Addr × AO)} {F : List Str} {M : List (Str × Addr)} {av : AV} {Φ : AV → St → Prop} (hc : ClsOK c.K C F M) (g : GetL y (.ref x) σ.loc)
  (pk : Pick (x,.inst C fs) σ.hp rest) (hf : name ∈ F) (gf : GetF name av fs) (hr : av.isRaw = false) (h : Φ av σ) : WE c (.Attribute (.Name y py) name pos) σ Φ := fun T fr s Q H k =>
 S_Attribute_Name ((ϰa (pos := py) (Φ := fun a σ1 => a = .ref x ∧ σ1 = σ) g ⟨rfl,rfl⟩) T fr s _ H fun a va σ1 T1 s1 e1 H1 r1 h1 => by
  obtain ⟨rfl,rfl⟩ := h1
  cases r1.ref_inv
  obtain ⟨m,F',hl⟩ := H1.fr_
  obtain ⟨d,es,n,L',I,rf,ndf,ho,N,nd⟩ := H1.inst pk
  obtain ⟨v,hv,rv⟩ := FsR.find gf rf ndf
  exact ϰj (get_own F' c.X I hc.get hc.dict (hc.fld _ hf).1 rfl hv (rv.handed hr) (k _ _ _ T1 _ e1 (H1.toks _) rv h)))
theorem putN_any (x : Str) (es : List DictEntry) (n : Nat) : ∃ n',putN x es n = n' := ⟨_,rfl⟩
theorem Holds.putF {T fr : Led} {s : Shared} {name : Str} {x C : Addr} {fs fs' : List (Str × AV)} {rest : List (Addr × AO)} {F : List Str} {M : List (Str × Addr)} {v : Value} {Q : Unit → Shared → Prop} (hc : ClsOK c.K C F M) (H : Holds c σ T fr s)
  (pk : Pick (x,.inst C fs) σ.hp rest) (hf : name ∈ F) (hz : fs.length ≤ 900)
  (hfs : ∀ es tk,FsR c.w.params T fs es → (fs.map (·.1)).Nodup → FsR c.w.params T fs' (putL name (PyData.keyHash c.w.params name) (.str name tk) v es) ∧ (fs'.map (·.1)).Nodup) (hl' : fs'.length ≤ 901)
  (hg : ∀ es,FsR c.w.params T fs es → (fs.map (·.1)).Nodup → (getL name es).isSome = true)
  (k : ∀ h' tk',Holds c { σ with hp := (x,.inst C fs') :: rest } T fr { s with heap := h',toks := tk' } → Q () { s with heap := h',toks := tk' }) :
  wpS c.cb c.M c.A (setAttr (.ref x) name v) Q s := by
 obtain ⟨m,F',hl⟩ := H.fr_
 obtain ⟨d,es,n,L',I,rf,ndf,ho,N,nd⟩ := H.inst pk
 obtain ⟨rf',ndf'⟩ := hfs es (s.toks + 1) rf ndf
 have nd0 : (x :: d :: (L' ++ (T ++ fr)).map (·.1)).Nodup := nd
 have ndd : (((d,dictOf es n) :: (L' ++ (T ++ fr))).map (·.1)).Nodup := (List.nodup_cons.mp nd0).2
 have hxd : (x,instObj C d).1 ≠ d := fun e => (List.nodup_cons.mp nd0).1 (by rw [show x = d from e];exact .head _)
 refine ϰj (set_dict F' c.X N I rfl hc.set hc.over (hc.fld _ hf).2 hc.dict (hg es rf ndf) rfl (Upd.tail hxd (upd_of ndd)) (by rw [rf'.length];exact δc hl' rfl) (fun h' F'' N' => ?_))
 refine k h' _ ⟨⟨m,F'',hl⟩,H.nd,⟨[(x,instObj C d),(d,dictOf _ _)] ++ L',Owns.put (l := [(x,instObj C d),(d,dictOf _ _)]) ⟨d,_,_,rfl,rf',ndf'⟩ ho,N',nd⟩,by rw [H.rest]⟩
theorem Holds.setF {T fr : Led} {s : Shared} {name : Str} {x C : Addr} {fs fs' : List (Str × AV)} {rest : List (Addr × AO)} {F : List Str} {M : List (Str × Addr)} {av : AV} {v : Value} {Q : Unit → Shared → Prop} (hc : ClsOK c.K C F M) (H : Holds c σ T fr s)
  (pk : Pick (x,.inst C fs) σ.hp rest) (hf : name ∈ F) (gf : SetF name av fs fs') (hz : fs.length ≤ 900) (r : VR T av v)
  (k : ∀ h' tk',Holds c { σ with hp := (x,.inst C fs') :: rest } T fr { s with heap := h',toks := tk' } → Q () { s with heap := h',toks := tk' }) :
  wpS c.cb c.M c.A (setAttr (.ref x) name v) Q s := by
 have hlen : fs'.length = fs.length := by have := congrArg List.length gf.names;simpa using this
 refine H.putF hc pk hf hz (fun es tk rf nd => ⟨rf.set r gf _ _ nd,by rw [gf.names];exact nd⟩) (by exact ω2 [] [_,_] (.Le ν0 (.n 901)) (.Eq ν0 ν1) (.Le ν1 (.n 900)) hlen hz rfl) (fun es rf nd => ?_) k
 obtain ⟨h1,h2⟩ := FsR.any (x := name) rf
 unfold getL
 split
 ·rfl
 ·rw [h2];rfl
theorem Holds.addF {T fr : Led} {s : Shared} {name : Str} {x C : Addr} {fs : List (Str × AV)} {rest : List (Addr × AO)} {F : List Str} {M : List (Str × Addr)} {av : AV} {v : Value} {Q : Unit → Shared → Prop} (hc : ClsOK c.K C F M) (H : Holds c σ T fr s)
  (pk : Pick (x,.inst C fs) σ.hp rest) (hf : name ∈ F) (gf : name ∉ fs.map (·.1)) (hz : fs.length ≤ 900) (r : VR T av v)
  (k : ∀ h' tk',Holds c { σ with hp := (x,.inst C (fs ++ [(name,av)])) :: rest } T fr { s with heap := h',toks := tk' } → Q () { s with heap := h',toks := tk' }) :
  wpS c.cb c.M c.A (setAttr (.ref x) name v) Q s := by
 refine H.putF hc pk hf hz (fun es tk rf nd => ⟨rf.add r tk gf,?_⟩) (by simp;exact δc hz rfl) (fun es rf nd => by rw [rf.none gf];rfl) k
 rw [List.map_append,List.nodup_append]
 refine ⟨nd,by simp,fun a ha b hb => ?_⟩
 have : b = name := by simpa using hb
 subst this
 exact fun e => gf (e ▸ ha)
theorem WS.setAttr {y py} {name : Str} {value pa pos} {C : Addr} {F : List Str} {M : List (Str × Addr)} {Φ : AFl → St → Prop} (hc : ClsOK c.K C F M) (hf : name ∈ F)
  (h : WE c value σ fun av σ1 => ∃ x fs fs' rest,GetL y (.ref x) σ1.loc ∧ Pick (x,.inst C fs) σ1.hp rest ∧ SetF name av fs fs' ∧ fs.length ≤ 900 ∧ Φ .next { σ1 with hp := (x,.inst C fs') :: rest })
  (hs : swapsWith value (some (.Attribute (.Name y py) name pa)) pos.line c.env = pure false := by rfl) : WS c (.Assign [.Attribute (.Name y py) name pa] value pos) σ Φ := fun T fr s Q H k =>
 ϰal (h T fr s _ H fun av v σ1 T1 s1 e1 H1 r1 h1 => by
  obtain ⟨x,fs,fs',rest,g,pk,gf,hz,h2⟩ := h1
  refine (ϰa (pos := py) (Φ := fun a σ2 => a = .ref x ∧ σ2 = σ1) g ⟨rfl,rfl⟩) T1 fr s1 _ H1 fun a va σ2 T2 s2 e2 H2 r2 h3 => ?_
  obtain ⟨rfl,rfl⟩ := h3
  cases r2.ref_inv
  exact H2.setF hc pk hf gf hz (r1.mono e2.sub) fun h' tk' H' => k .next _ _ T2 _ (e1.trans e2) H' rfl h2) hs
theorem WS.newAttr {y py} {name : Str} {value pa pos} {C : Addr} {F : List Str} {M : List (Str × Addr)} {Φ : AFl → St → Prop} (hc : ClsOK c.K C F M) (hf : name ∈ F)
  (h : WE c value σ fun av σ1 => ∃ x fs rest,GetL y (.ref x) σ1.loc ∧ Pick (x,.inst C fs) σ1.hp rest ∧ name ∉ fs.map (·.1) ∧ fs.length ≤ 900 ∧ Φ .next { σ1 with hp := (x,.inst C (fs ++ [(name,av)])) :: rest })
  (hs : swapsWith value (some (.Attribute (.Name y py) name pa)) pos.line c.env = pure false := by rfl) : WS c (.Assign [.Attribute (.Name y py) name pa] value pos) σ Φ := fun T fr s Q H k =>
 ϰal (h T fr s _ H fun av v σ1 T1 s1 e1 H1 r1 h1 => by
  obtain ⟨x,fs,rest,g,pk,gf,hz,h2⟩ := h1
  refine (ϰa (pos := py) (Φ := fun a σ2 => a = .ref x ∧ σ2 = σ1) g ⟨rfl,rfl⟩) T1 fr s1 _ H1 fun a va σ2 T2 s2 e2 H2 r2 h3 => ?_
  obtain ⟨rfl,rfl⟩ := h3
  cases r2.ref_inv
  exact H2.addF hc pk hf gf hz (r1.mono e2.sub) fun h' tk' H' => k .next _ _ T2 _ (e1.trans e2) H' rfl h2) hs
theorem WS.augAttr {y py} {name : Str} {op value pa pos} {x C : Addr} {fs : List (Str × AV)} {rest : List (Addr × AO)} {F : List Str} {M : List (Str × Addr)} {av : AV} {Φ : AFl → St → Prop} (hc : ClsOK c.K C F M) (hf : name ∈ F) (g : GetL y (.ref x) σ.loc)
  (pk : Pick (x,.inst C fs) σ.hp rest) (gf : GetF name av fs) (hr : av.isRaw = false)
  (h : WE c value σ fun b σ1 => WIn c op av b σ1 fun n σ2 => ∃ fs2 fs' rest,Pick (x,.inst C fs2) σ2.hp rest ∧ SetF name n fs2 fs' ∧ fs2.length ≤ 900 ∧ Φ .next { σ2 with hp := (x,.inst C fs') :: rest }) :
  WS c (.AugAssign (.Attribute (.Name y py) name pa) op value pos) σ Φ := fun T fr s Q H k => by
 refine ϰaN ((ϰa (pos := py) (Φ := fun a σ1 => a = .ref x ∧ σ1 = σ) g ⟨rfl,rfl⟩) T fr s _ H fun a va σ1 T1 s1 e1 H1 r1 h1 => ?_)
 obtain ⟨rfl,rfl⟩ := h1
 cases r1.ref_inv
 obtain ⟨m,F',hl⟩ := H1.fr_
 obtain ⟨d,es,n,L',I,rf,ndf,ho,N,nd⟩ := H1.inst pk
 obtain ⟨v,hv,rv⟩ := FsR.find gf rf ndf
 refine ϰj (get_own (E := fun _ _ => False) F' c.X I hc.get hc.dict (hc.fld _ hf).1 rfl hv (rv.handed hr) ?_)
 refine h T1 fr _ _ (H1.toks _) fun b vb σ2 T2 s2 e2 H2 r2 h2 => ?_
 refine h2 T2 fr s2 v vb _ H2 (rv.mono e2.sub) r2 fun nn vn σ3 T3 s3 e3 H3 r3 h3 => ?_
 obtain ⟨fs2,fs',rest2,pk2,gs,hz,h4⟩ := h3
 exact H3.setF hc pk2 hf gs hz r3 fun h' tk' H' => k .next _ _ T3 _ ((e1.trans e2).trans e3) H' rfl h4
theorem WE.meth {y py} {name : Str} {apos pos args} {x C f : Addr} {fs : List (Str × AV)} {rest : List (Addr × AO)} {F : List Str} {M : List (Str × Addr)} {Φ : AV → St → Prop} (hc : ClsOK c.K C F M) (g : GetL y (.ref x) σ.loc)
  (pk : Pick (x,.inst C fs) σ.hp rest) (hm : (name,f) ∈ M) (hn : name ∉ fs.map (·.1)) (h : WEs c pos args σ fun as σ1 => WVs c (.raw (.ref f)) (.ref x :: as) σ1 Φ) (hp : plainArgs c pos args := by rfl)
  (pl : Sem Bool := do return (← importBound (.Name y py) c.env).getD true)
  (he : eval (.Call (.Attribute (.Name y py) name apos) args [] pos) c.env = (do
   let ov ← eval (.Name y py) c.env
   standAt apos.atName
   let (f,first) ← holding [ov] (getMethod ov name pl)
   callWith pos f first (backTo pos (starEach args c.env)) []) := by rfl) : WE c (.Call (.Attribute (.Name y py) name apos) args [] pos) σ Φ := fun T fr s Q H k => by
 refine ϰak (pl := pl) ((ϰa (pos := py) (Φ := fun a σ1 => a = .ref x ∧ σ1 = σ) g ⟨rfl,rfl⟩) T fr s _ H fun a va σ1 T1 s1 e1 H1 r1 h1 => ?_) he
 obtain ⟨rfl,rfl⟩ := h1
 cases r1.ref_inv
 obtain ⟨m,F',hl⟩ := H1.fr_
 obtain ⟨d,es,n,L',I,rf,ndf,ho,N,nd⟩ := H1.inst pk
 obtain ⟨hm1,hm2,hm3⟩ := hc.meth name f hm
 refine ϰj (method_inst (E := fun _ _ => False) F' c.X I hc.get hm1 hm2 (rf.none hn) ?_)
 refine ϱL (.inl hm3) hp h H1 fun as vs σ2 T2 s2 e2 H2 r2 h2 => ?_
 exact h2 T2 fr s2 _ _ Q H2 .of_raw (.cons .of_ref r2) (k.ext (e1.trans e2))
end
end Mine
namespace Mine
section
variable {c : Cx} {σ : St}
noncomputable def Enters (c : Cx) (dp un : Nat) (f : Addr) (as : List AV) (σ : St) (Φ : AV → St → Prop) : Prop :=
 ∀ T fr s vs (R : Result → Shared → Prop),Holds c σ T fr s → VRs T as vs → (∀ av v σ' T' s',Ext T T' → Holds c σ' T' fr s' → VR T' av v → Φ av σ' → R (.ok (.ret v)) s') →
  codeS c.cb c.M (ktrTop dp un c.gd c.cn c.cs c.L c.fa c.ccd c.cl c.outer) (.call (.ref f) ⟨vs,[]⟩) R s
theorem ϰw {f : Addr} {as : List AV} {Φ : AV → St → Prop} (h : Enters c c.dp c.un f as σ Φ) : WVs c (.raw (.ref f)) as σ Φ := fun T fr s v vs Q H r rs k => by
 cases r.raw_inv
 refine ϰaO (h T fr s vs _ H rs fun av v σ' T' s' e H' rv hφ => ?_)
 exact k av v σ' T' s' e H' rv hφ
theorem under_make (dp un : Nat) (gd : Option (List Code)) (cn : Str) (cs : Scope) (L a : Addr) (ccd : Value) (cl : List (Str × Addr)) (outer : List Env) (C : Addr) (vs : List Value) :
  (ktrTop dp un gd cn cs L a ccd cl outer).under (.builtin "type.__call__" ⟨.ref C :: vs,[]⟩) = ktrTop (dp + 1) (un + 1) gd cn cs L a ccd cl outer := by
 unfold Around.under
 have h1 : (Code.builtin "type.__call__" ⟨.ref C :: vs,[]⟩).envs = [] := rfl
 have h2 : (Code.builtin "type.__call__" ⟨.ref C :: vs,[]⟩).guards = [] := by rfl
 have h3 : (Code.builtin "type.__call__" ⟨.ref C :: vs,[]⟩).weight = 1 := by rfl
 have h4 : (Code.builtin "type.__call__" ⟨.ref C :: vs,[]⟩).cUnits = 1 := by rfl
 rw [h1,h2,h3,h4]
 rfl
noncomputable abbrev Cx.dull (c : Cx) : Cx := { c with cb := false }
theorem Holds.dull {T fr : Led} {s : Shared} (H : Holds c σ T fr s) : Holds c.dull σ T fr s := ⟨H.fr_,H.nd,H.own,H.rest⟩
theorem Holds.ofDull {T fr : Led} {s : Shared} (H : Holds c.dull σ T fr s) : Holds c σ T fr s := ⟨H.fr_,H.nd,H.own,H.rest⟩
theorem WVs.cls {C fI : Addr} {as : List AV} {Φ : AV → St → Prop} (hm : makesIn c.K C = true) (hi : findIn c.K (.ref C) "__init__" = some (some (.ref fI))) (hf : typeIn c.K (.ref fI) = some (.type "function"))
  (h : ∀ x,Enters c.dull (c.dp + 1) (c.un + 1) fI (.ref x :: as) { σ with hp := (x,.inst C []) :: σ.hp } fun av σ' => av = .none ∧ Φ (.ref x) σ') : WVs c (.raw (.ref C)) as σ Φ := fun T fr s v vs Q H r rs k => by
 cases r.raw_inv
 obtain ⟨m,F,hl⟩ := H.fr_
 obtain ⟨L,ho,N,nd⟩ := H.own
 refine ϰj (E := fun _ _ => False) (wpAny_call (PySem.W.make_K F N (Frag.In.keeps c.X F.keep) hm hi hf fun x dx h' F' N' lt ltx => ?_))
 rw [under_make]
 have nd' : (((x,instObj C dx) :: (dx,emptyDict) :: (L ++ (T ++ fr))).map (·.1)).Nodup := by
  refine ϱq (ϱq nd lt) fun p hp => ?_
  rcases List.mem_cons.mp hp with rfl | hp
  ·exact ltx
  ·exact Nat.lt_trans (lt p hp) ltx
 have H' : Holds c { σ with hp := (x,.inst C []) :: σ.hp } T fr { s with heap := h' } :=
  ⟨⟨m,F',hl⟩,H.nd,⟨[(x,instObj C dx),(dx,dictOf [] 0)] ++ L,Owns.put (l := [(x,instObj C dx),(dx,dictOf [] 0)]) ⟨dx,[],0,rfl,by simp only [FsN,FsC],by simp⟩ ho,N',nd'⟩,by rw [H.rest]⟩
 refine code_to_any (h x T fr _ _ _ H'.dull (.cons .of_ref rs) fun av v σ' T' s' e H'' rv hφ => ?_)
 obtain ⟨rfl,hφ⟩ := hφ
 exact ⟨rv.none_inv,k _ _ σ' T' s' e H''.ofDull .of_ref hφ⟩
theorem Enters.of {foot rest : List (Addr × AO)} {f : Addr} {oc : Value} {od : Option Addr} {osl : Array (Option Value)} {name qual : Str} {params : Arguments} {body : List Stmt} {scope : Scope} {dV kV doc pm cdv ct : Value} {an : Option Addr}
  {as : List AV} {args : List Str} {more : List Str} {G : List (Str × AV)} {dp un : Nat} {Φ : AV → St → Prop}
  (ho : c.K.lookup f = some ⟨oc,od,.func (fnOf name qual params body scope dV kV doc pm an cdv ct),osl⟩) (hcd : codeIn c.K cdv qual = true) (hroom : dp < recursionLimit)
  (hlen : as.length = args.length)
  (hb : ∀ vs : List Value,vs.length = args.length → bindArgs (fnOf name qual params body scope dV kV doc pm an cdv ct) ⟨vs,[]⟩ = pure (args.zip vs))
  (hnd : (args ++ more).Nodup) (hloc : ((args ++ more).all fun x => scope.names.lookup x == some .local && !(x == ("__debug__" : Str))) = true)
  (hcell : (scope.names.all fun x => x.2 != .cell) = true) (hco : scope.isCoroutine = false) (hgen : scope.isGenerator = false) (hk : scope.kind = .function)
  (hG : GAll c.K G) (hGs : (G.all fun p => scope.names.lookup p.1 == some .globalImplicit) = true)
  (hp : σ.hp.Perm (foot ++ rest))
  (hbody : ∀ c' : Cx,Inner c c' dp un scope (· = []) G → WSs c' body ⟨(args.zip as).map (fun p => (p.1,some p.2)) ++ more.map (fun x => (x,none)),foot⟩ (retK fun av hp' => Φ av ⟨σ.loc,hp' ++ rest⟩)) : Enters c dp un f as σ Φ := fun T fr s vs R H r k => by
 have hz : (args.zip as).map (·.1) = args := List.map_fst_zip (by exact κ1 [] [_,_] (.Le ν0 ν1) (.Eq ν1 ν0) [1,-1] hlen rfl)
 refine enter (args := args.zip as) (more := more) hp ho hcd hroom (fun T fr s vs H r => ⟨args.zip vs,.of_eq (hb vs (by rw [r.length];exact hlen)),BR.zip r⟩) (by rw [hz];exact hnd) (fun x hx => ?_) (fun x hx => ?_) hco hgen hk hG (fun p hp => ?_) hbody H r
  (fun av v hp' T' s' e H' rv hφ => k av v _ T' s' e H' rv hφ)
 ·rw [hz] at hx
  have := List.all_eq_true.mp hloc x hx
  simp only [Bool.and_eq_true,beq_iff_eq,Bool.not_eq_true'] at this
  exact this
 ·have := List.all_eq_true.mp hcell x hx
  simpa using this
 ·have := List.all_eq_true.mp hGs p hp
  simpa using this
inductive NamesAre : List Expr → List Str → Prop
 | nil : NamesAre [] []
 | cons (x px) {es xs} : NamesAre es xs → NamesAre (.Name x px :: es) (x :: xs)
inductive SetLs : List Str → List AV → List (Str × Option AV) → List (Str × Option AV) → Prop
 | nil (l) : SetLs [] [] l l
 | cons {x av xs avs l l1 l2} : SetL x av l l1 → SetLs xs avs l1 l2 → SetLs (x :: xs) (av :: avs) l l2
theorem SetLs.length {xs : List Str} {avs : List AV} {l l' : List (Str × Option AV)} (h : SetLs xs avs l l') : xs.length = avs.length := by
 induction h with
 | nil l => rfl
 | cons _ _ ih => simp [ih]
theorem NamesAre.length {es : List Expr} {xs : List Str} (h : NamesAre es xs) : es.length = xs.length := by
 induction h with
 | nil => rfl
 | cons x px _ ih => simp [ih]
theorem ϰaK (x px es) (env : Env) : assignEach (.Name x px :: es) env = (false,assign (.Name x px) env) :: assignEach es env := rfl
theorem NamesAre.each {es : List Expr} {xs : List Str} (h : NamesAre es xs) (env : Env) : (assignEach es env).length = xs.length ∧ (assignEach es env).findIdx? (·.1) = none := by
 induction h with
 | nil => exact ⟨rfl,rfl⟩
 | cons x px _ ih =>
  rw [ϰaK]
  refine ⟨by simp [ih.1],?_⟩
  rw [List.findIdx?_cons]
  simp [ih.2]
theorem assignNames {T fr : Led} {es : List Expr} {xs : List Str} (hn : NamesAre es xs) : ∀ {σ : St} {s : Shared} {avs : List AV} {vs : List Value} {loc' : List (Str × Option AV)} {Q : Unit → Shared → Prop},Holds c σ T fr s → SetLs xs avs σ.loc loc' → VRs T avs vs →
  (∀ h' tk',Holds c { σ with loc := loc' } T fr { s with heap := h',toks := tk' } → Q () { s with heap := h',toks := tk' }) → wpS c.cb c.M c.A (assignInOrder ((assignEach es c.env).map (·.2)) vs) Q s := by
 induction hn with
 | nil =>
  intro σ s avs vs loc' Q H hs r k
  cases hs
  simp only [VRn,VRc] at r
  subst r
  exact ϰbi (k s.heap s.toks H)
 | cons x px hn ih =>
  intro σ s avs vs loc' Q H hs r k
  cases hs with
  | cons h1 h2 =>
   simp only [VRn,VRc] at r
   obtain ⟨v,vs',rfl,rv,rr⟩ := r
   rw [ϰaK,List.map_cons]
   refine ϰaY ?_
   show wpS c.cb c.M c.A (assign (.Name x px) c.env v) _ s
   rw [ϰba]
   refine ϰb (ϰp (ϰaX (H.store h1 rv fun h' tk' H' => ?_)))
   exact ih H' h2 rr fun h'' tk'' H'' => k h'' tk'' H''
theorem assignTuple {T fr : Led} {es : List Expr} {xs : List Str} {n pos} {s : Shared} {l : List AV} {v : Value} {loc' : List (Str × Option AV)} {Q : Unit → Shared → Prop} (hn : NamesAre es xs) (H : Holds c σ T fr s) (hs : SetLs xs l σ.loc loc') (r : VR T (.tup l) v)
  (k : ∀ h' tk',Holds c { σ with loc := loc' } T fr { s with heap := h',toks := tk' } → Q () { s with heap := h',toks := tk' }) : wpS c.cb c.M c.A (assign (.Tuple es n pos) c.env v) Q s := by
 obtain ⟨a,vs,rfl,ht,rs⟩ := H.isTup r
 obtain ⟨m,F,hl⟩ := H.fr_
 obtain ⟨L,ho,N,nd⟩ := H.own
 obtain ⟨h1,h2⟩ := hn.each c.env
 show wpS c.cb c.M c.A (do standAt pos;unpack (.ref a) (assignEach es c.env)) Q s
 unfold unpack
 refine ϰb (ϰp (ϰb (ϰo (ϰj (E := fun _ _ => False) ?_))))
 rw [h2]
 refine unpackItemsN_ F N ht rfl (by rw [h1,List.size_toArray,rs.length,hs.length]) fun h' F' N' => ?_
 rw [List.toList_toArray]
 exact assignNames hn (H.kept hl ho nd F' N' s.toks) hs rs fun h'' tk'' H'' => k h'' tk'' H''
theorem ϰaV {es : List Expr} {xs : List Str} {n tpos value pos} {Φ : AFl → St → Prop} (hn : NamesAre es xs) (h : WE c value σ fun av σ1 => ∃ l loc',av = .tup l ∧ SetLs xs l σ1.loc loc' ∧ Φ .next { σ1 with loc := loc' })
  (h1 : swapsWithSole [.Tuple es n tpos] value pos.line c.env = pure false := by rfl) (h2 : swappedStores [.Tuple es n tpos] value c.env = pure none := by rfl) : WS c (.Assign [.Tuple es n tpos] value pos) σ Φ := fun T fr s Q H k =>
 S_Assign_Tuple (h T fr s _ H fun av v σ1 T1 s1 e1 H1 r1 h1 => by
  obtain ⟨l,loc',rfl,hs,hφ⟩ := h1
  exact assignTuple hn H1 hs r1 fun h' tk' H' => k .next _ _ T1 _ e1 H' rfl hφ) h1 h2
theorem WTg.tuple {es : List Expr} {xs : List Str} {n tpos} {l : List AV} {loc' : List (Str × Option AV)} {Ψ : St → Prop} (hn : NamesAre es xs) (hs : SetLs xs l σ.loc loc') (h : Ψ { σ with loc := loc' }) : WTg c (.Tuple es n tpos) (.tup l) σ Ψ := fun T fr s v I o Q H r ho hc k => by
 have hgo : ∀ {Q' : Unit → Shared → Prop},Q' () s → wpS c.cb c.M c.A (letOwnedTupleGo (.Tuple es n tpos) (.ref I) v) Q' s := by
  intro Q' hq
  obtain ⟨a,vs,rfl,_⟩ := H.isTup r
  show wpS c.cb c.M c.A (load I >>= _) Q' s
  refine ϰb (ϰj (E := fun _ _ => False) (wpAny_load ho ?_))
  obtain ⟨oc,od,oda,osl⟩ := o
  dsimp only at hc ⊢
  rcases hc with rfl | rfl | rfl <;> cases oda <;> first | exact ϰn hq | (dsimp only;rw [if_neg (by simp)];exact ϰn hq)
 exact hgo (assignTuple hn H hs r fun h' tk' H' => k _ T _ (.refl T) H' h)
end
end Mine
namespace Mine
theorem AllOr.list_it {o : Obj} (h : o.cls = .type "list_iterator") : o.cls = .type "list_iterator" ∨ o.cls = .type "range_iterator" ∨ o.cls = .type "bytes_iterator" := .inl h
section
variable {c : Cx} {σ : St}
theorem ForOK.list {target body} {Φ : AFl → St → Prop} {l : Addr} {as : List AV} {rest : List (Addr × AO)} {ι : Type} (P : Nat → ι → Prop) (J : Nat → ι → St) (i0 : ι) (pk : Pick (l,.list as) σ.hp rest) (h0 : P 0 i0) (le : Le σ (J 0 i0))
  (pkJ : ∀ i d,P i d → ∃ rest,Pick (l,.list as) (J i d).hp rest)
  (turn : ∀ i d (hi : i < as.length),P i d → WTg c target as[i] (J i d) fun σ1 => WSs c body σ1 (forK P J i Φ))
  (done : ∀ d,P as.length d → Φ .next (J as.length d)) : ForOK c target body (.ref l) σ Φ := fun T fr s v Q H r k => by
 cases r.ref_inv
 obtain ⟨vs,hl,rs⟩ := H.isList pk
 refine ϰj (E := fun _ _ => False) (wpAny_pyIter_list hl ?_)
 have H1 := (H.le le).pushFr { cls := .type "list_iterator",data := .fields #[.ref l,.int 0 0] } rfl
 refine forCore (P := P) (J := J) as.length s.heap.objs.size (fun i o => o.cls = .type "list_iterator" ∧ o.data = .fields #[.ref l,.int i 0]) (fun i _ => as.getD i .none) ⟨rfl,rfl⟩ h0 H1 k (fun i o h => .inl h.1) ?_ ?_ ?_ done
 ·intro i d T' o s' Q' hi hP H' hO kk
  obtain ⟨rest',pk'⟩ := pkJ i d hP
  obtain ⟨vs',hl',rs'⟩ := H'.isList pk'
  obtain ⟨L,ho,N,nd⟩ := H'.own
  have hI := (N (s.heap.objs.size,o) (by simp)).1
  have hlen := rs'.length
  have hg : as[i]? = some (as.getD i .none) := by rw [List.getD_eq_getElem?_getD,List.getElem?_eq_getElem hi];rfl
  obtain ⟨x,hx,rx⟩ := rs'.get hg
  refine ϰj (E := fun _ _ => False) (wpAny_pyNext_list_item (i := i) ⟨o,hI,hO.1,hO.2⟩ hl' (x := x) (by simpa using hx) fun h' hit hs => ?_)
  obtain ⟨o',h1,h2,h3⟩ := hit
  exact kk x h' s'.toks o' rx (fun b y hb e => (hs.2 b hb).trans e) h1 ⟨h2,h3⟩
 ·intro d T' o s' Q' hP H' hO kk
  obtain ⟨rest',pk'⟩ := pkJ _ d hP
  obtain ⟨vs',hl',rs'⟩ := H'.isList pk'
  obtain ⟨L,ho,N,nd⟩ := H'.own
  have hI := (N (s.heap.objs.size,o) (by simp)).1
  have hlen := rs'.length
  refine ϰj (E := fun _ _ => False) (wpAny_pyNext_list_end (i := as.length) rfl ⟨o,hI,hO.1,hO.2⟩ hl' (by simp [hlen]) fun h' he => ?_)
  exact kk h' s'.toks he
 ·intro i d hi hP
  have := turn i d hi hP
  have hg : as.getD i .none = as[i] := by rw [List.getD_eq_getElem?_getD,List.getElem?_eq_getElem hi];rfl
  rw [hg];exact this
theorem ForOK.range {target body} {Φ : AFl → St → Prop} {r : Addr} {a b st : Int} {rest : List (Addr × AO)} {ι : Type} (n : Nat) (P : Nat → ι → Prop) (J : Nat → ι → St) (i0 : ι) (pk : Pick (r,.rng a b st) σ.hp rest)
  (hn : Builtin.Range.rangeSize a b st = (n : Int)) (hsm : Builtin.Range.small a b st = true) (h0 : P 0 i0) (le : Le σ (J 0 i0))
  (turn : ∀ i d,i < n → P i d → WTg c target (.int (a + (i : Int) * st)) (J i d) fun σ1 => WSs c body σ1 (forK P J i Φ))
  (done : ∀ d,P n d → Φ .next (J n d)) : ForOK c target body (.ref r) σ Φ := fun T fr s v Q H rv k => by
 cases rv.ref_inv
 obtain ⟨L,L',⟨t,u,q,rfl⟩,_,N,_⟩ := H.pick pk
 have hr : IsRange s.heap r a b st t u q := (N (r,_) (by simp)).1
 refine ϰj (E := fun _ _ => False) (wpAny_pyIter_range hr hsm ?_)
 rw [hn]
 have H1 := (H.le le).pushFr { cls := .type "range_iterator",data := .fields #[rawInt a,rawInt (n : Int),rawInt st] } rfl
 refine forCore (P := P) (J := J) n s.heap.objs.size (fun i o => o = { cls := .type "range_iterator",dict := none,data := .fields #[rawInt (a + (i : Int) * st),rawInt ((n : Int) - (i : Int)),rawInt st],slots := #[] }) (fun i _ => .int (a + (i : Int) * st)) (by simp) h0 H1 k (fun i o h => .inr (.inl (by rw [h]))) ?_ ?_ (fun i d hi hP => turn i d hi hP) done
 ·intro i d T' o s' Q' hi hP H' hO kk
  obtain ⟨L,ho,N,nd⟩ := H'.own
  have hI := (N (s.heap.objs.size,o) (by simp)).1
  subst hO
  refine ϰj (E := fun _ _ => False) (wpAny_pyNext_range_item (x := a + (i : Int) * st) (left := (n : Int) - (i : Int)) (step := st) hI (by exact ω1 [] [_,_] (.lt (.n 0) (.s (.c ν0) (.c ν1))) (.Lt ν1 ν0) hi rfl) fun h' hit hs => ?_)
  refine kk _ h' _ _ .of_int (fun b y hb e => (hs.2 b hb).trans e) hit ?_
  have e1 : a + (i : Int) * st + st = a + ((i + 1 : Nat) : Int) * st := by
   rw [Int.natCast_add,Int.add_mul];simp [Int.add_assoc]
  have e2 : (n : Int) - (i : Int) - 1 = (n : Int) - ((i + 1 : Nat) : Int) := by exact η0 [] [_,_] (.eq (.s (.s (.c ν0) (.c ν1)) (.n 1)) (.s (.c ν0) (.c (.a ν1 (.n 1))))) [1] [1] rfl
  rw [e1,e2]
 ·intro d T' o s' Q' hP H' hO kk
  obtain ⟨L,ho,N,nd⟩ := H'.own
  have hI := (N (s.heap.objs.size,o) (by simp)).1
  subst hO
  exact ϰj (E := fun _ _ => False) (wpAny_pyNext_range_end (x := a + (n : Int) * st) (left := (n : Int) - (n : Int)) (step := st) rfl hI (by exact κ0 [] [_] (.le (.s (.c ν0) (.c ν0)) (.n 0)) [1] rfl) fun h' he => kk h' s'.toks he)
theorem ForOK.bytes {target body} {Φ : AFl → St → Prop} {ks : List Int} {ι : Type} (P : Nat → ι → Prop) (J : Nat → ι → St) (i0 : ι) (h0 : P 0 i0) (le : Le σ (J 0 i0))
  (turn : ∀ i d (hi : i < ks.length),P i d → 0 ≤ ks[i] → ks[i] < 256 → WTg c target (.int ks[i]) (J i d) fun σ1 => WSs c body σ1 (forK P J i Φ))
  (done : ∀ d,P ks.length d → Φ .next (J ks.length d)) : ForOK c target body (.bytes ks) σ Φ := fun T fr s v Q H r k => by
 obtain ⟨b,t,rfl,hb⟩ := r.bytes_inv
 have hlen : b.size = ks.length := ϱM hb
 refine ϰj (E := fun _ _ => False) (KBw.pyIter_bytes ?_)
 have H1 := (H.le le).pushFr { cls := .type "bytes_iterator",data := .fields #[.bytes b t,.int 0 0] } rfl
 refine forCore (P := P) (J := J) ks.length s.heap.objs.size (fun i o => o.cls = .type "bytes_iterator" ∧ o.data = .fields #[.bytes b t,.int i 0]) (fun i _ => .int (ks.getD i 0)) ⟨rfl,rfl⟩ h0 H1 k (fun i o h => .inr (.inr h.1)) ?_ ?_ ?_ done
 ·intro i d T' o s' Q' hi hP H' hO kk
  obtain ⟨L,ho,N,nd⟩ := H'.own
  have hI := (N (s.heap.objs.size,o) (by simp)).1
  have hib : i < b.size := by exact κ2 [] [_,_,_] (.Lt ν0 ν1) (.Lt ν0 ν2) (.Eq ν1 ν2) [1,1,-1] hi hlen rfl
  have hx : b[i]? = some b[i] := by simp [hib]
  refine ϰj (E := fun _ _ => False) (KBw.next_item (i := i) ⟨o,hI,hO.1,hO.2⟩ hx fun h' hit hs => ?_)
  obtain ⟨o',h1,h2,h3⟩ := hit
  have hv : ((b[i].toNat : Nat) : Int) = ks.getD i 0 := by
   have := KBw.ints_get hx
   rw [hb] at this
   rw [List.getD_eq_getElem?_getD,this];rfl
  rw [hv]
  exact kk _ h' _ o' .of_int (fun b y hb e => (hs.2 b hb).trans e) h1 ⟨h2,h3⟩
 ·intro d T' o s' Q' hP H' hO kk
  obtain ⟨L,ho,N,nd⟩ := H'.own
  have hI := (N (s.heap.objs.size,o) (by simp)).1
  exact ϰj (E := fun _ _ => False) (KBw.next_end (i := ks.length) rfl ⟨o,hI,hO.1,hO.2⟩ (by simp [hlen]) fun h' he => kk h' s'.toks he)
 ·intro i d hi hP
  have hg : ks.getD i 0 = ks[i] := by rw [List.getD_eq_getElem?_getD,List.getElem?_eq_getElem hi];rfl
  have hr := KBw.ints_in (b := b) (k := ks[i]) (by rw [hb];exact List.getElem_mem hi)
  rw [hg];exact turn i d hi hP hr.1 hr.2
variable {Φ : AV → St → Prop}
theorem VRs.one {T : Led} {a : AV} {vs : List Value} (h : VRs T [a] vs) : ∃ v,vs = [v] ∧ VR T a v := by
 simp only [VRn,VRc] at h
 obtain ⟨v,r,rfl,hv,rfl⟩ := h
 exact ⟨v,rfl,hv⟩
theorem VRs.two {T : Led} {a b : AV} {vs : List Value} (h : VRs T [a,b] vs) : ∃ v w,vs = [v,w] ∧ VR T a v ∧ VR T b w := by
 simp only [VRn,VRc] at h
 obtain ⟨v,r,rfl,hv,w,r',rfl,hw,rfl⟩ := h
 exact ⟨v,w,rfl,hv,hw⟩
theorem VRs.three {T : Led} {a b d : AV} {vs : List Value} (h : VRs T [a,b,d] vs) : ∃ v w x,vs = [v,w,x] ∧ VR T a v ∧ VR T b w ∧ VR T d x := by
 simp only [VRn,VRc] at h
 obtain ⟨v,r,rfl,hv,w,r',rfl,hw,x,r'',rfl,hx,rfl⟩ := h
 exact ⟨v,w,x,rfl,hv,hw,hx⟩
theorem Holds.madeObj {T fr : Led} {s : Shared} (H : Holds c σ T fr s) {o : Obj} {ao : AO} (hf : o.isFreed = false) (r : ∀ x,OR c.w.params T x ao [(x,o)]) (k : Nat) :
  Holds c { σ with hp := (s.heap.objs.size,ao) :: σ.hp } T fr { s with heap := s.heap.push o,toks := k } := by
 obtain ⟨m,F,hl⟩ := H.fr_
 obtain ⟨L,ho,N,nd⟩ := H.own
 exact H.made hl ho nd (r _) (Holds.lt_size N) (F.push o) (News.push F N o hf) k
theorem WVs.range1 {n : Int} (h : ∀ r,Φ (.ref r) { σ with hp := (r,.rng 0 n 1) :: σ.hp }) : WVs c (.raw (.type "range")) [.int n] σ Φ := fun T fr s v vs Q H r rs k => by
 cases r.raw_inv
 obtain ⟨v,rfl,rv⟩ := rs.one
 obtain ⟨t,rfl⟩ := rv.int_inv
 exact ϰj (E := fun _ _ => False) (call_range_1 (k _ _ _ T _ (.refl T) (H.madeObj (ao := .rng 0 n 1) rfl (fun x => ⟨_,_,_,rfl⟩) _) .of_ref (h _)))
theorem WVs.range2 {a b : Int} (h : ∀ r,Φ (.ref r) { σ with hp := (r,.rng a b 1) :: σ.hp }) : WVs c (.raw (.type "range")) [.int a,.int b] σ Φ := fun T fr s v vs Q H r rs k => by
 cases r.raw_inv
 obtain ⟨v,w,rfl,rv,rw⟩ := rs.two
 obtain ⟨t,rfl⟩ := rv.int_inv
 obtain ⟨u,rfl⟩ := rw.int_inv
 exact ϰj (E := fun _ _ => False) (call_range_2 (k _ _ _ T _ (.refl T) (H.madeObj (ao := .rng a b 1) rfl (fun x => ⟨_,_,_,rfl⟩) _) .of_ref (h _)))
theorem ϱY {a b d : Int} (h0 : d ≠ 0) (h1 : d.natAbs < 1073741824) (h : ∀ r,Φ (.ref r) { σ with hp := (r,.rng a b d) :: σ.hp }) : WVs c (.raw (.type "range")) [.int a,.int b,.int d] σ Φ := fun T fr s v vs Q H r rs k => by
 cases r.raw_inv
 obtain ⟨v,w,x,rfl,rv,rw,rx⟩ := rs.three
 obtain ⟨t,rfl⟩ := rv.int_inv
 obtain ⟨u,rfl⟩ := rw.int_inv
 obtain ⟨q,rfl⟩ := rx.int_inv
 exact ϰj (E := fun _ _ => False) (call_range_3 h0 (k _ _ _ T _ (.refl T) (H.madeObj (ao := .rng a b d) rfl (fun x => ⟨_,_,_,rfl⟩) _) .of_ref (h _)) (.inl (PyProof.noPylong_small h1)))
theorem ϰv {ks : List Int} (hz : ks.length ≤ 16777216) (h : Φ (.int ks.length) σ) : WVs c (.raw (.builtin "len")) [.bytes ks] σ Φ := fun T fr s v vs Q H r rs k => by
 cases r.raw_inv
 obtain ⟨v,rfl,rv⟩ := rs.one
 obtain ⟨b,t,rfl,hb⟩ := rv.bytes_inv
 exact ϰj (E := fun _ _ => False) (KBw.len_K hb (by exact δc hz rfl) (k _ _ _ T _ (.refl T) (H.toks _) .of_int h))
theorem WVs.lenL {l : Addr} {as : List AV} {rest : List (Addr × AO)} (pk : Pick (l,.list as) σ.hp rest) (hz : as.length ≤ 16777216) (h : Φ (.int as.length) σ) : WVs c (.raw (.builtin "len")) [.ref l] σ Φ := fun T fr s v vs Q H r rs k => by
 cases r.raw_inv
 obtain ⟨v,rfl,rv⟩ := rs.one
 cases rv.ref_inv
 obtain ⟨xs,hl,r⟩ := H.isList pk
 have e : (xs.toArray.size : Int) = (as.length : Int) := by rw [List.size_toArray,r.length]
 refine ϰj (E := fun _ _ => False) (call_len_list hl (by rw [e];exact ω1 [] [_] (.lt (.c ν0) (.n 9223372036854775808)) (.Le ν0 (.n 16777216)) hz rfl) (k _ _ _ T _ (.refl T) (H.toks _) .of_int ?_))
 rw [e];exact h
theorem ϰbf {a b : Int} (h : Φ (.int (if b < a then b else a)) σ) : WVs c (.raw (.builtin "min")) [.int a,.int b] σ Φ := fun T fr s v vs Q H r rs k => by
 cases r.raw_inv
 obtain ⟨v,w,rfl,rv,rw⟩ := rs.two
 obtain ⟨t,rfl⟩ := rv.int_inv
 obtain ⟨u,rfl⟩ := rw.int_inv
 obtain ⟨m,F,hl⟩ := H.fr_
 obtain ⟨L,ho,N,nd⟩ := H.own
 exact ϰj (E := fun _ _ => False) (min_two_N rfl F N fun h' tk F' N' => k _ _ _ T _ (.refl T) (H.kept hl ho nd F' N' _) .of_int h)
theorem WVs.sum {ks : List Int} (hz : ks.length ≤ 16777216) (h : 0 ≤ ks.sum → ks.sum ≤ 255 * (ks.length : Int) → Φ (.int ks.sum) σ) : WVs c (.raw (.builtin "sum")) [.bytes ks] σ Φ := fun T fr s v vs Q H r rs k => by
 cases r.raw_inv
 obtain ⟨v,rfl,rv⟩ := rs.one
 obtain ⟨b,t,rfl,hb⟩ := rv.bytes_inv
 obtain ⟨m,F,hl⟩ := H.fr_
 obtain ⟨L,ho,N,nd⟩ := H.own
 exact ϰj (E := fun _ _ => False) (KBmo.sum_K F N rfl hb hz fun h' t' tk F' N' p q => k _ _ _ T _ (.refl T) (H.kept hl ho nd F' N' _) .of_int (h p q))
theorem ints_of {T : Led} : ∀ {ns : List Int} {vs : List Value},VRs T (ns.map AV.int) vs → IntsAre vs ns
 | [],vs,h => by simp only [List.map_nil,VRn,VRc] at h;subst h;exact IntsAre.nil
 | n :: ns,vs,h => by
  simp only [List.map_cons,VRn,VRc] at h
  obtain ⟨v,r,rfl,hv,hr⟩ := h
  obtain ⟨t,rfl⟩ := hv.int_inv
  exact IntsAre.cons _ _ (ints_of hr)
theorem byteArr_ints {ns : List Int} (h : ∀ n ∈ ns,0 ≤ n ∧ n < 256) : KBw.bInts (byteArr ns) = ns := KBa.ints_make h
theorem WVs.bytesL {l : Addr} {ns : List Int} {as : List AV} {rest : List (Addr × AO)} (pk : Pick (l,.list as) σ.hp rest) (e : as = ns.map AV.int) (hr : ∀ n ∈ ns,0 ≤ n ∧ n < 256) (hz : ns.length ≤ 16777216) (h : Φ (.bytes ns) σ) :
  WVs c (.raw (.type "bytes")) [.ref l] σ Φ := fun T fr s v vs Q H r rs k => by
 subst e
 cases r.raw_inv
 obtain ⟨v,rfl,rv⟩ := rs.one
 cases rv.ref_inv
 obtain ⟨xs,hl',r⟩ := H.isList pk
 obtain ⟨m,F,hl⟩ := H.fr_
 obtain ⟨L,ho,N,nd⟩ := H.own
 exact ϰj (E := fun _ _ => False) (KBa.make_K F N rfl hl' (ints_of r) hr hz fun h' t' tk F' N' _ => k _ _ _ T _ (.refl T) (H.kept hl ho nd F' N' _) (.of_bytes (byteArr_ints hr)) h)
end
end Mine
namespace Mine
namespace Fct
theorem int_no_bytes : typeLookup (.type "int") "__bytes__" = pure none := by rw [typeLookup_type,builtinLookup_eq_fast];kernel_rfl
theorem int_index : typeLookup (.type "int") "__index__" = pure (some (.builtin "int.__index__")) := by rw [typeLookup_type,builtinLookup_eq_fast];kernel_rfl
theorem bytes_bytes : typeLookup (.type "bytes") "__bytes__" = pure (some (.builtin "bytes.__bytes__")) := by rw [typeLookup_type,builtinLookup_eq_fast];kernel_rfl
theorem ba_no_bytes : typeLookup (.type "bytearray") "__bytes__" = pure none := by rw [typeLookup_type,builtinLookup_eq_fast];kernel_rfl
theorem ba_no_index : typeLookup (.type "bytearray") "__index__" = pure none := by rw [typeLookup_type,builtinLookup_eq_fast];kernel_rfl
theorem ba_buffer : typeLookup (.type "bytearray") "__buffer__" = pure (some (.builtin "bytearray.__buffer__")) := by rw [typeLookup_type,builtinLookup_eq_fast];kernel_rfl
theorem ba_release : typeLookup (.type "bytearray") "__release_buffer__" = pure (some (.builtin "bytearray.__release_buffer__")) := by rw [typeLookup_type,builtinLookup_eq_fast];kernel_rfl
theorem ba_sub : isSubtype (.type "bytearray") (.type "bytearray") = pure true := by rw [isSubtype_type];kernel_rfl
end Fct
noncomputable abbrev baObj (b : Array UInt8) : Obj := { cls := .type "bytearray",data := .bytearray b 0 }
section
variable {prog : Program} {w : World} {A : Around} {E : Value → Shared → Prop} {s : Shared}
theorem ϰaI {x : Value} {Q : Value → Shared → Prop}
  (h : codeAny (model prog w) A.in1 (.call (.builtin "bytes.__new__") ⟨[.type "bytes",x],[]⟩) (wants (fun obj s₁ => s₁.TypeIs obj "bytes" ∧ Q obj s₁) E) s) : wpAny (model prog w) A (call (.type "bytes") [x]) Q E s := by
 refine callType_codes (Q₁ := fun obj s₁ => s₁.TypeIs obj "bytes" ∧ Q obj s₁) F.bm_called (F.bm_typeCall _) F.entry_object_init h fun obj s₁ h₁ => ?_
 exact ⟨h₁.1,F.args_object_init_2 obj _,object_init_meets F.bm_called.init.lookup F.bm_called.made (by decide) prog w A.in1 _ s₁ ⟨h₁.1,rfl,h₁.2⟩⟩
theorem bytes_head {x : Value} {R : Result → Shared → Prop}
  (h : wpAny (model prog w) A.in1 (Builtin.«bytes.__new__» ⟨[.type "bytes",x],[]⟩) (fun fin s' => match fin with | .done f => R (.ok f) s' | .again c' => c'.quiet = true ∧ codeAny (model prog w) A c' R s') (fun e s' => R (.error e) s') s) :
  codeAny (model prog w) A (.call (.builtin "bytes.__new__") ⟨[.type "bytes",x],[]⟩) R s := by
 refine codeAny_of_tree ?_
 show wpAny _ A.in1 (do checkBuiltinCall "bytes.__new__" ⟨[.type "bytes",x],[]⟩;again (.builtin "bytes.__new__" ⟨[.type "bytes",x],[]⟩)) _ _ s
 refine wpAny_bind (wpAny_of_eq (F.bm_newCall _) (wpAny_pure ⟨plainId_quiet F.bm_plain _,codeAny_builtin F.bm_entry ?_⟩))
 rw [Around.under_plainId F.bm_plain _]
 exact h
theorem call_bytes_n {n : Int} {t : Tok} {Q : Value → Shared → Prop} (h0 : 0 ≤ n) (h1 : n ≤ 16777216) (hQ : ∀ t k,Q (.bytes (Array.replicate n.toNat 0) t) { s with toks := k }) : wpAny (model prog w) A (call (.type "bytes") [.int n t]) Q E s := by
 refine ϰaI (bytes_head ?_)
 have hT : s.TypeIs (.int n t) "int" := typeIs_int s n t
 unfold Builtin.«bytes.__new__»
 refine wpAny_bind (wpAny_of_eq (a := true) rfl ?_)
 refine bm_if_false rfl ?_
 refine wpAny_bind (wpAny_of_eq F.bm_sub ?_)
 refine bm_if_false rfl ?_
 refine wpAny_bind (wpAny_of_eq (F.bm_bind _) ?_)
 refine wpAny_bind (wpAny_of_eq (a := ()) rfl ?_)
 refine wpAny_bind (wpAny_of_eq (a := ()) rfl ?_)
 refine bm_if_false rfl ?_
 refine wpAny_bind (wpAny_specialOf hT Fct.int_no_bytes ?_)
 refine wpAny_bind (wpAny_of_eq (a := false) rfl ?_)
 refine bm_if_false rfl ?_
 refine wpAny_bind (wpAny_specialOf hT Fct.int_index ?_)
 refine bm_if_false rfl ?_
 refine wpAny_bind (wpAny_attempt ?_)
 refine wpAny_bind (wpAny_of_eq (a := some n) rfl ?_)
 refine wpAny_pure ?_
 dsimp only
 have hf : Builtin.Bytes.fitsIndex n = true := by unfold Builtin.Bytes.fitsIndex;simp;exact ⟨δj h0 rfl,δo h1 rfl⟩
 refine bm_if_false (by rw [hf];rfl) ?_
 rw [if_neg (by exact Int.not_lt.mpr h0),if_neg (by exact ω1 [_] [] (.nlt (.s (.n 9223372036854775808) (.n 34)) ξ0) (.le ξ0 (.n 16777216)) h1 rfl)]
 refine bm_if_false (by unfold Builtin.Bytes.tooLong;rw [sizeLine_eq];simp;exact δk h1 rfl) ?_
 refine wpAny_bind (wpAny_rule ?_)
 unfold mkBytes
 rw [if_neg (by rw [sizeLine_eq];simp;exact δk h1 rfl)]
 refine wpAny_bind (wpAny_bind (wpAny_fresh (wpAny_pure ?_)))
 exact wpAny_pure ⟨PySem.W.typeIs_bytes _ _ _,hQ _ _⟩
theorem call_bytes_bytes {b : Array UInt8} {t : Tok} {Q : Value → Shared → Prop} (hQ : Q (.bytes b t) s) : wpAny (model prog w) A (call (.type "bytes") [.bytes b t]) Q E s := by
 refine ϰaI (bytes_head ?_)
 have hT : s.TypeIs (.bytes b t) "bytes" := PySem.W.typeIs_bytes _ _ _
 unfold Builtin.«bytes.__new__»
 refine wpAny_bind (wpAny_of_eq (a := true) rfl ?_)
 refine bm_if_false rfl ?_
 refine wpAny_bind (wpAny_of_eq F.bm_sub ?_)
 refine bm_if_false rfl ?_
 refine wpAny_bind (wpAny_of_eq (F.bm_bind _) ?_)
 refine wpAny_bind (wpAny_of_eq (a := ()) rfl ?_)
 refine wpAny_bind (wpAny_of_eq (a := ()) rfl ?_)
 refine bm_if_false rfl ?_
 refine wpAny_bind (wpAny_specialOf hT Fct.bytes_bytes ?_)
 refine wpAny_bind (wpAny_rule ?_)
 refine wpAny_bind (wpAny_typeOf hT ?_)
 refine bm_if_true rfl ?_
 exact wpAny_pure ⟨hT,hQ⟩
theorem ϰbe {a : Addr} {b : Array UInt8} (h : s.heap.get? a = some (baObj b)) : s.TypeIs (.ref a) "bytearray" := ⟨_,h,rfl⟩
theorem ba_buf {a : Addr} {b : Array UInt8} {id : String} {full : Bool} {Q : Option (Array UInt8) → Shared → Prop} (h : s.heap.get? a = some (baObj b)) (hQ : Q (some b) s) : wpAny (model prog w) A (Builtin.Bytes.buffer? id (.ref a) full) Q E s := by
 have hT := ϰbe h
 unfold Builtin.Bytes.buffer?
 refine wpAny_bind (wpAny_specialOf hT Fct.ba_buffer ?_)
 dsimp only
 have own : ∀ {nm : String} {r : String} {Q' : Bool → Shared → Prop},typeLookup (.type "bytearray") (nm : Str) = pure (some (.builtin r)) → r.endsWith ("." ++ nm) = true → r.dropRight (nm.length + 1) = "bytearray" → Q' true s → wpAny (model prog w) A (Builtin.Bytes.slotIsOwn (.ref a) nm) Q' E s := by
  intro nm r Q' h1 h2 h3 h4
  unfold Builtin.Bytes.slotIsOwn
  refine wpAny_bind (wpAny_specialOf hT h1 ?_)
  dsimp only
  rw [h2,h3]
  refine bm_if_false rfl ?_
  exact wpAny_isInstance hT Fct.ba_sub h4
 refine wpAny_bind (own Fct.ba_buffer (by decide +kernel) (by decide +kernel) ?_)
 refine bm_if_false rfl ?_
 refine wpAny_bind (wpAny_specialOf hT Fct.ba_buffer ?_)
 unfold Builtin.Bytes.ownRelease
 refine wpAny_bind (wpAny_bind (own Fct.ba_release (by decide +kernel) (by decide +kernel) (wpAny_pure ?_)))
 refine bm_if_false rfl ?_
 refine wpAny_bind ?_
 unfold Builtin.Bytes.payload Builtin.Bytes.payload?
 refine wpAny_bind (wpAny_bind (wpAny_load h ?_))
 exact wpAny_pure (wpAny_pure (wpAny_pure hQ))
theorem call_bytes_ba {a : Addr} {b : Array UInt8} {Q : Value → Shared → Prop} (h : s.heap.get? a = some (baObj b)) (hz : b.size ≤ 16777216) (hQ : ∀ t k,Q (.bytes b t) { s with toks := k }) : wpAny (model prog w) A (call (.type "bytes") [.ref a]) Q E s := by
 refine ϰaI (bytes_head ?_)
 have hT := ϰbe h
 unfold Builtin.«bytes.__new__»
 refine wpAny_bind (wpAny_of_eq (a := true) rfl ?_)
 refine bm_if_false rfl ?_
 refine wpAny_bind (wpAny_of_eq F.bm_sub ?_)
 refine bm_if_false rfl ?_
 refine wpAny_bind (wpAny_of_eq (F.bm_bind _) ?_)
 refine wpAny_bind (wpAny_of_eq (a := ()) rfl ?_)
 refine wpAny_bind (wpAny_of_eq (a := ()) rfl ?_)
 refine bm_if_false rfl ?_
 refine wpAny_bind (wpAny_specialOf hT Fct.ba_no_bytes ?_)
 refine wpAny_bind (wpAny_bind ?_)
 show wpAny _ _ (load a >>= _) _ _ _
 refine wpAny_bind (wpAny_load h ?_)
 refine wpAny_pure (wpAny_pure ?_)
 refine bm_if_false rfl ?_
 refine wpAny_bind (wpAny_specialOf hT Fct.ba_no_index ?_)
 refine bm_if_true rfl ?_
 first
  | show wpAny _ _ (Builtin.Bytes.buffer? "bytes.__new__" (.ref a) true >>= _) _ _ _
  |(refine wpAny_bind ?_;show wpAny _ _ (Builtin.Bytes.buffer? "bytes.__new__" (.ref a) true >>= _) _ _ _)
 refine wpAny_bind (ba_buf h ?_)
 refine wpAny_bind (wpAny_rule ?_)
 unfold mkBytes
 rw [if_neg (by rw [sizeLine_eq];exact ω1 [] [_] (.NLt (.n 16777216) ν0) (.Le ν0 (.n 16777216)) hz rfl)]
 refine wpAny_bind (wpAny_bind (wpAny_fresh (wpAny_pure ?_)))
 first
  | exact wpAny_pure ⟨PySem.W.typeIs_bytes _ _ _,hQ _ _⟩
  | exact wpAny_pure (wpAny_pure ⟨PySem.W.typeIs_bytes _ _ _,hQ _ _⟩)
end
section
variable {c : Cx} {σ : St} {Φ : AV → St → Prop}
theorem bInts_zero (n : Nat) : KBw.bInts (Array.replicate n 0) = List.replicate n 0 := by
 simp [KBw.bInts]
theorem WVs.bytesN {n : Int} (h0 : 0 ≤ n) (h1 : n ≤ 16777216) (h : Φ (.bytes (List.replicate n.toNat 0)) σ) : WVs c (.raw (.type "bytes")) [.int n] σ Φ := fun T fr s v vs Q H r rs k => by
 cases r.raw_inv
 obtain ⟨v,rfl,rv⟩ := rs.one
 obtain ⟨t,rfl⟩ := rv.int_inv
 exact ϰj (E := fun _ _ => False) (call_bytes_n h0 h1 fun t' k' => k _ _ σ T _ (.refl T) (H.toks _) (.of_bytes (bInts_zero _)) h)
theorem WVs.bytesB {ks : List Int} (h : Φ (.bytes ks) σ) : WVs c (.raw (.type "bytes")) [.bytes ks] σ Φ := fun T fr s v vs Q H r rs k => by
 cases r.raw_inv
 obtain ⟨v,rfl,rv⟩ := rs.one
 obtain ⟨b,t,rfl,hb⟩ := rv.bytes_inv
 exact ϰj (E := fun _ _ => False) (call_bytes_bytes (k _ _ σ T _ (.refl T) H (.of_bytes hb) h))
theorem Holds.ba {T fr : Led} {s : Shared} {a : Addr} {ks : List Int} {rest : List (Addr × AO)} (H : Holds c σ T fr s) (pk : Pick (a,.bytearray ks) σ.hp rest) : ∃ b,s.heap.get? a = some (baObj b) ∧ KBw.bInts b = ks := by
 obtain ⟨L,L',⟨b,n,rfl,rfl,hb⟩,_,N,_⟩ := H.pick pk
 exact ⟨b,(N (a,baObj b) (by simp)).1,hb⟩
theorem WVs.bytesA {a : Addr} {ks : List Int} {rest : List (Addr × AO)} (pk : Pick (a,.bytearray ks) σ.hp rest) (hz : ks.length ≤ 16777216) (h : Φ (.bytes ks) σ) : WVs c (.raw (.type "bytes")) [.ref a] σ Φ := fun T fr s v vs Q H r rs k => by
 cases r.raw_inv
 obtain ⟨v,rfl,rv⟩ := rs.one
 cases rv.ref_inv
 obtain ⟨b,hb1,hb2⟩ := H.ba pk
 exact ϰj (E := fun _ _ => False) (call_bytes_ba hb1 (by rw [ϱM hb2];exact hz) fun t' k' => k _ _ σ T _ (.refl T) (H.toks _) (.of_bytes hb2) h)
end
end Mine
namespace Mine
namespace Fct
theorem ba_mro : mroOf (.type "bytearray") = pure [.type "bytearray",.type "object"] := by rw [mroOf_type];kernel_rfl
theorem ba_lookup_new : typeLookup (.type "bytearray") "__new__" = pure (some (.builtin "bytearray.__new__")) := by rw [typeLookup_type,builtinLookup_eq_fast];kernel_rfl
theorem ba_slot_init : Slot "bytearray" "__init__" "bytearray.__init__" :=
 .of (owner := "bytearray") (n := "__init__") (by rw [typeLookup_type,builtinLookup_eq_fast];kernel_rfl) (by decide +kernel) (by decide +kernel) (by decide +kernel)
  (by first | exact .inl (by decide +kernel) | exact .inr (by decide +kernel)) (by rw [isSubtype_type];kernel_rfl)
theorem ba_slot_len : Slot "bytearray" "__len__" "bytearray.__len__" :=
 .of (owner := "bytearray") (n := "__len__") (by rw [typeLookup_type,builtinLookup_eq_fast];kernel_rfl) (by decide +kernel) (by decide +kernel) (by decide +kernel)
  (by first | exact .inl (by decide +kernel) | exact .inr (by decide +kernel)) (by rw [isSubtype_type];kernel_rfl)
theorem ba_slot_extend : Slot "bytearray" "extend" "bytearray.extend" :=
 .of (owner := "bytearray") (n := "extend") (by rw [typeLookup_type,builtinLookup_eq_fast];kernel_rfl) (by decide +kernel) (by decide +kernel) (by decide +kernel)
  (by first | exact .inl (by decide +kernel) | exact .inr (by decide +kernel)) (by rw [isSubtype_type];kernel_rfl)
theorem ba_type_extend : typeOf (.builtin "bytearray.extend") = pure (.type "method_descriptor") := by show builtinType _ = _;rw [builtinType_eq_fast];kernel_rfl
theorem ba_called : TypeCalled "bytearray" "bytearray.__new__" "bytearray.__init__" :=
 ⟨by decide +kernel,by decide +kernel,⟨_,_,ba_mro⟩,madeBy_type ba_mro ba_lookup_new (by decide +kernel),by decide +kernel,by rw [isSubtype_type];kernel_rfl,ba_slot_init⟩
theorem ba_typeCall (as : List Value) : checkTypeCall "bytearray" ⟨as,[]⟩ = pure () := by kernel_rfl
theorem ba_newCall (as : List Value) : checkBuiltinCall "bytearray.__new__" ⟨.type "bytearray" :: as,[]⟩ = pure () := by kernel_rfl
theorem ba_entry_new : entryFor table "bytearray.__new__" = some Builtin.«list.__new__» := entryFor_alias (id' := "list.__new__") (by kernel_rfl) rfl (by decide +kernel) (by kernel_rfl)
theorem ba_plain_new : plainId "bytearray.__new__" = true := by decide +kernel
theorem ba_entry_init : entryFor table "bytearray.__init__" = some Builtin.«bytearray.__init__» := by first | exact entryFor_of_tree (by kernel_rfl) | exact entryFor_of_fast (by kernel_rfl)
theorem ba_entry_len : entryFor table "bytearray.__len__" = some Builtin.«bytearray.__len__» := by first | exact entryFor_of_tree (by kernel_rfl) | exact entryFor_of_fast (by kernel_rfl)
theorem ba_entry_extend : entryFor table "bytearray.extend" = some Builtin.«bytearray.extend» := by first | exact entryFor_of_tree (by kernel_rfl) | exact entryFor_of_fast (by kernel_rfl)
theorem ba_owner : Manifest.owners.lookup (String.ofList ['y','a','r','r','a','e','t','y','b'].reverse) = some Manifest.sig_bytearray := by kernel_rfl
theorem ba_args_init1 (a : Value) : argsOk "bytearray.__init__" ⟨[a],[]⟩ := by unfold argsOk;rw [signature?_of (id := "bytearray.__init__") (n := ['_','_','t','i','n','i','_','_']) (o := ['y','a','r','r','a','e','t','y','b']) (by kernel_rfl) ba_owner];kernel_rfl
theorem ba_args_init2 (a b : Value) : argsOk "bytearray.__init__" ⟨[a,b],[]⟩ := by unfold argsOk;rw [signature?_of (id := "bytearray.__init__") (n := ['_','_','t','i','n','i','_','_']) (o := ['y','a','r','r','a','e','t','y','b']) (by kernel_rfl) ba_owner];kernel_rfl
theorem ba_args_len (a : Value) : argsOk "bytearray.__len__" ⟨[a],[]⟩ := by unfold argsOk;rw [signature?_of (id := "bytearray.__len__") (n := ['_','_','n','e','l','_','_']) (o := ['y','a','r','r','a','e','t','y','b']) (by kernel_rfl) ba_owner];kernel_rfl
theorem ba_args_extend (a b : Value) : argsOk "bytearray.extend" ⟨[a,b],[]⟩ := by unfold argsOk;rw [signature?_of (id := "bytearray.extend") (n := ['d','n','e','t','x','e']) (o := ['y','a','r','r','a','e','t','y','b']) (by kernel_rfl) ba_owner];kernel_rfl
theorem ba_bind0 : Builtin.Bytes.bindOptional "bytearray.__init__" "bytearray" ["source","encoding","errors"] [] [] = pure [none,none,none] := by kernel_rfl
theorem ba_bind1 (v : Value) : Builtin.Bytes.bindOptional "bytearray.__init__" "bytearray" ["source","encoding","errors"] [v] [] = pure [some v,none,none] := by kernel_rfl
theorem bytes_no_index : typeLookup (.type "bytes") "__index__" = pure none := by rw [typeLookup_type,builtinLookup_eq_fast];kernel_rfl
theorem ba_ga : PlainAttrs "bytearray" :=
 ⟨⟨"bytearray.__getattribute__",by rw [typeLookup_type,builtinLookup_eq_fast];kernel_rfl,by decide +kernel⟩,by rw [typeLookup_type,builtinLookup_eq_fast];kernel_rfl⟩
end Fct
set_option maxHeartbeats 4000000 in
theorem owner_ba_new : ("bytearray.__new__".splitOn ".__new__").headD "" = "bytearray" := by simp +decide [String.splitOn,String.splitOnAux]
end Mine
namespace Mine
section
variable {b : Bool} {prog : Program} {w : World} {A : Around} {s : Shared}
theorem S_callSpecial_slot {M : Model} {self : Value} {T : String} {name : Str} {id : String} {args : List Value} {Q : Option Value → Shared → Prop} (hT : s.TypeIs self T) (h : Slot T name id)
  (hc : wpS b M A (call (.builtin id) (self :: args)) (fun v => Q (some v)) s) : wpS b M A (callSpecial? self name args) Q s := by
 simp only [callSpecial?]
 refine ϰb (ϰj (wpAny_specialOf (E := fun _ _ => False) hT h.lookup ?_))
 simp only [h.bind]
 exact ϰo (ϰb (ϰn (ϰb (ϰk hc fun v s' h' => ϰn h'))))
theorem ϰbb {id : String} {args : Args} {B : Builtin} {R : Result → Shared → Prop} (hp : plainId id = true) (hb : entryFor table id = some B) (hf : fine (.builtin id args) = true)
  (hchk : wpAny (model prog w) A.in1 (checkBuiltinCall id args) (fun _ s₁ => s₁ = s) (fun _ _ => False) s)
  (h : wpS b (model prog w) A.in1 (B args) (fun fin s' => match fin with | .done f => R (.ok f) s' | .again c' => c'.quiet = true ∧ fine c' = true ∧ codeS b (model prog w) A c' R s') s) :
  codeS b (model prog w) A (.call (.builtin id) args) R s := by
 refine ϰV ?_
 show wpS _ _ A.in1 (do checkBuiltinCall id args;again (.builtin id args)) _ s
 refine ϰb (ϰk (ϰj hchk) fun _ s₁ e => ϰn ⟨plainId_quiet hp _,hf,?_⟩)
 subst e
 refine ϰV ?_
 rw [Around.under_plainId hp _]
 show wpS _ _ _ (match entryFor table id with | some b => b args | none => unsupported ((withoutEnding? id "#data").getD id)) _ s₁
 rw [hb];exact h
theorem S_exported {a : Addr} (hb : b = true) {Q : Bool → Shared → Prop} (h : Q false s) : wpS b (model prog w) A (Builtin.Bytes.exported (.ref a)) Q s := by
 intro Γ p hΓ hcl
 have hc := hcl hb
 have hall : ∀ y ∈ ((Γ.code,p) :: Γ.below),fine y.1 = true := by
  intro y hy
  rcases List.mem_cons.mp hy with rfl | hy
  ·exact hc.1
  ·exact hc.2 y hy
 unfold Builtin.Bytes.exported stack
 rw [Sem.wp_bind',Sem.wp_stack]
 show Q (List.any ((Γ.code,p) :: Γ.below) _) s
 refine (congrArg (fun v => Q v s) (?_ : List.any _ _ = false)).mpr h
 rw [List.any_eq_false]
 rintro ⟨cd,q⟩ hy
 have hfi := hall _ hy
 have key : ∀ id args,cd = .builtin id args → badIds.contains id = false := by
  intro id args e
  subst e
  have h : (!badIds.contains id) = true := hfi
  cases e : badIds.contains id
  ·rfl
  ·rw [e] at h;cases h
 cases cd with
 | builtin id args =>
  have hk := key id args rfl
  have n1 : ¬ id = "bytearray.__contains__" := fun e => absurd (e ▸ hk) (by decide +kernel)
  have n2 : ¬ id = "bytearray.__mod__" := fun e => absurd (e ▸ hk) (by decide +kernel)
  have n3 : ¬ id = "bytearray.__rmod__" := fun e => absurd (e ▸ hk) (by decide +kernel)
  have n4 : ¬ id = "_struct.pack_into.held" := fun e => absurd (e ▸ hk) (by decide +kernel)
  have n5 : ¬ id = "bytearray.find.held" := fun e => absurd (e ▸ hk) (by decide +kernel)
  have h2 : Builtin.Bytes.decodersThatHold.contains id = false := by
   unfold badIds at hk
   rw [List.contains_eq_any_beq,List.any_append,← List.contains_eq_any_beq] at hk
   exact (Bool.or_eq_false_iff.mp hk).1
  obtain ⟨pos,kw⟩ := args
  delta Builtin.Bytes.exported.match_1
  refine (?_ : ¬ (dite (id = "bytearray.__contains__") _ _) = true)
  rw [dif_neg n1,dif_neg n2,dif_neg n3,dif_neg n4,dif_neg n5]
  cases pos with
  | nil => exact Bool.false_ne_true
  | cons v t =>
   show ¬ (_ && Builtin.Bytes.decodersThatHold.contains id) = true
   rw [h2,Bool.and_false];exact Bool.false_ne_true
 | _ => exact Bool.false_ne_true
theorem S_free {a : Addr} {x : Array UInt8} (hb : b = true) (ho : s.heap.get? a = some (baObj x)) {Q : Bool → Shared → Prop} (h : Q false s) :
  wpS b (model prog w) A (Builtin.Bytes.exported (.ref a) <||> (do return decide ((← Builtin.Bytes.exportsOf (.ref a)) > 0))) Q s := by
 unfold orM
 refine ϰb (S_exported hb ?_)
 show wpS _ _ _ (do return decide ((← Builtin.Bytes.exportsOf (.ref a)) > 0)) Q s
 refine ϰb ?_
 unfold Builtin.Bytes.exportsOf
 refine ϰb (ϰj (wpAny_load (E := fun _ _ => False) ho ?_))
 exact ϰn (ϰn h)
theorem past_ba {x : Array UInt8} (h : x.size ≤ 16777216) : (baObj x).data.pastItsLine = none := by
 show (if x.size > sizeLine then some "bytearray:memory" else none) = none
 rw [if_neg (by rw [sizeLine_eq];exact ω1 [] [_] (.NLt (.n 16777216) ν0) (.Le ν0 (.n 16777216)) h rfl)]
theorem ba_write {a : Addr} {x : Array UInt8} {f : Array UInt8 → Array UInt8} {Q : Unit → Shared → Prop} (ho : s.heap.get? a = some (baObj x)) (hz : (f x).size ≤ 16777216)
  (h : ∀ h',(∀ c o,c ≠ a → s.heap.get? c = some o → h'.get? c = some o) → h'.get? a = some (baObj (f x)) → Q () { s with heap := h' }) : wpAny (model prog w) A (Builtin.Bytes.write (.ref a) f) Q (fun _ _ => False) s := by
 show wpAny _ _ (updateBytearray a f) _ _ _
 unfold updateBytearray
 refine wpAny_bind (wpAny_load ho ?_)
 show wpAny _ _ (update a (Obj.mapBytearray f) >>= fun _ => lookBehind a) _ _ _
 refine wpAny_bind (wpAny_update ho ?_)
 have h2 : (s.heap.update a (Obj.mapBytearray f)).get? a = some (baObj (f x)) := Heap.get?_update_self (Obj.mapBytearray f) ho rfl
 refine wpAny_lookBehind h2 (past_ba hz) ?_
 exact h _ (fun c o hc e => (Heap.get?_update_ne _ _ _ _ hc).trans e) h2
theorem code_ba_new (as : List Value) {R : Result → Shared → Prop} (h : R (.ok (.ret (.ref s.heap.objs.size))) { s with heap := s.heap.push (baObj #[]) }) :
  codeAny (model prog w) A (.call (.builtin "bytearray.__new__") ⟨.type "bytearray" :: as,[]⟩) R s := by
 refine codeAny_of_tree ?_
 show wpAny _ A.in1 (do checkBuiltinCall "bytearray.__new__" ⟨.type "bytearray" :: as,[]⟩;again (.builtin "bytearray.__new__" ⟨.type "bytearray" :: as,[]⟩)) _ _ s
 refine wpAny_bind (wpAny_of_eq (Fct.ba_newCall as) (wpAny_pure ⟨plainId_quiet Fct.ba_plain_new _,codeAny_builtin_stack Fct.ba_entry_new rfl fun p st => ?_⟩))
 rw [Around.under_plainId Fct.ba_plain_new _]
 have hsub := Fct.ba_sub
 have hown := owner_ba_new
 obtain ⟨hp,g,d,tk,os⟩ := s
 simp only [hown]
 wp_walk
 exact h
theorem S_builtin {id : String} {args : Args} {B : Builtin} {R : Result → Shared → Prop} (hb : entryFor table id = some B)
  (h : wpS b (model prog w) (A.under (.builtin id args)) (B args) (fun fin s' => match fin with | .done f => R (.ok f) s' | .again c' => c'.quiet = true ∧ fine c' = true ∧ codeS b (model prog w) A c' R s') s) :
  codeS b (model prog w) A (.builtin id args) R s := by
 refine ϰV ?_
 show wpS _ _ _ (match entryFor table id with | some b => b args | none => unsupported ((withoutEnding? id "#data").getD id)) _ s
 rw [hb];exact h
theorem under_tc (as : List Value) : A.under (.builtin "type.__call__" ⟨.type "bytearray" :: as,[]⟩) = A.in1 := Around.under_plain (weight_type_call_type "bytearray" as []) rfl
theorem S_callBA {as : List Value} {Q : Value → Shared → Prop} (hargs : ∀ o,argsOk "bytearray.__init__" ⟨o :: as,[]⟩)
  (h : ∀ a h',s.heap.objs.size ≤ a → (∀ c o,s.heap.get? c = some o → h'.get? c = some o) → h'.get? a = some (baObj #[]) → wpS b (model prog w) A.in1.in1 (Builtin.«bytearray.__init__» ⟨.ref a :: as,[]⟩) (fun fin s' => fin = .done (.ret .none) ∧ Q (.ref a) s') { s with heap := h' }) :
  wpS b (model prog w) A (call (.type "bytearray") as) Q s := by
 have ft := Fct.ba_called
 obtain ⟨c,tl,hmro⟩ := ft.mro
 refine ϰaO (ϰV ?_)
 show wpS _ _ _ (callAny (.type "bytearray") _) _ _
 refine ϰn ⟨Code.quiet_builtin _ (by decide +kernel),rfl,S_builtin F.entry_type_call ?_⟩
 rw [under_tc]
 unfold Builtin.«type.__call__»
 have h1 := ft.notType
 have h2 := ft.canCreate
 have hbf : ∀ {α : Type} {cnd : Bool} {x y : Sem α} {Q' : α → Shared → Prop} {s' : Shared} {A' : Around},cnd = false → wpS b (model prog w) A' y Q' s' → wpS b (model prog w) A' (if cnd = true then x else y) Q' s' := by
  intro α cnd x y Q' s' A' hc hy;subst hc;exact hy
 refine hbf h1 ?_
 refine ϰb ?_
 refine ϰj (E := fun _ _ => False) (wpAny_of_eq (Fct.ba_typeCall as) ?_)
 refine ϰb (ϰj (E := fun _ _ => False) (wpAny_of_eq hmro ?_))
 refine hbf rfl ?_
 refine ϰb (ϰj (E := fun _ _ => False) (wpAny_of_eq ft.made ?_))
 refine ϰb (ϰn (ϰb (ϰo (ϰaO (code_of_any (code_ba_new as ?_))))))
 have hT : ({ s with heap := s.heap.push (baObj #[]) } : Shared).TypeIs (.ref s.heap.objs.size) "bytearray" := ϰbe (Heap.get?_push_size _ rfl)
 refine ϰb (ϰj (E := fun _ _ => False) (wpAny_isInstance hT Fct.ba_sub ?_))
 refine hbf rfl ?_
 refine ϰb (ϰo (S_callSpecial_slot hT Fct.ba_slot_init (ϰaO (ϰbb (by decide +kernel) Fct.ba_entry_init rfl (Fct.ba_slot_init.check _ _ _ _ _ _ _ _ hT (hargs _) rfl) ?_))))
 refine ϰk (h _ _ (Nat.le_refl _) (fun c o e => Heap.get?_push_of_some _ e) (Heap.get?_push_size _ rfl)) fun fin s' hfin => ?_
 obtain ⟨rfl,hq⟩ := hfin
 refine hbf rfl ?_
 exact ϰn hq
end
end Mine
namespace Mine
section
variable {b : Bool} {prog : Program} {w : World} {A : Around} {s : Shared}
theorem ϱp {α : Type} {M : Model} {cnd : Bool} {x y : Sem α} {Q : α → Shared → Prop} (hc : cnd = false) (h : wpS b M A y Q s) : wpS b M A (if cnd = true then x else y) Q s := by subst hc;exact h
theorem S_if_true {α : Type} {M : Model} {cnd : Bool} {x y : Sem α} {Q : α → Shared → Prop} (hc : cnd = true) (h : wpS b M A x Q s) : wpS b M A (if cnd = true then x else y) Q s := by subst hc;exact h
theorem ba_release {a : Addr} {x : Array UInt8} {Q : Bool → Shared → Prop} (ho : s.heap.get? a = some (baObj x)) (h : Q false s) : wpAny (model prog w) A (Builtin.Bytes.ownRelease (.ref a)) Q (fun _ _ => False) s := by
 have hT := ϰbe ho
 unfold Builtin.Bytes.ownRelease Builtin.Bytes.slotIsOwn
 refine wpAny_bind (wpAny_bind (wpAny_specialOf hT Fct.ba_release ?_))
 dsimp only
 rw [show ("bytearray.__release_buffer__".endsWith ("." ++ "__release_buffer__")) = true from by decide +kernel,show "bytearray.__release_buffer__".dropRight ("__release_buffer__".length + 1) = "bytearray" from by decide +kernel]
 refine bm_if_false rfl ?_
 exact wpAny_isInstance hT Fct.ba_sub (wpAny_pure h)
theorem bytes_buf {id : String} {full : Bool} {x : Array UInt8} {t : Tok} {Q : Option (Array UInt8) → Shared → Prop} (h : Q (some x) s) : wpAny (model prog w) A (Builtin.Bytes.buffer? id (.bytes x t) full) Q (fun _ _ => False) s := by
 unfold Builtin.Bytes.buffer?
 refine wpAny_bind (wpAny_of_eq (KBy.special_eq KBy.look_buffer) ?_)
 dsimp only
 refine wpAny_bind (wpAny_of_eq KBy.own_buffer ?_)
 refine bm_if_false rfl ?_
 refine wpAny_bind (wpAny_of_eq (KBy.special_eq KBy.look_buffer) ?_)
 refine wpAny_bind (wpAny_of_eq KBy.own_release ?_)
 refine bm_if_false rfl ?_
 refine wpAny_bind (wpAny_of_eq (a := x) rfl ?_)
 exact wpAny_pure h
theorem ba_init0 {a : Addr} {Q : Fin → Shared → Prop} (hb : b = true) (ho : s.heap.get? a = some (baObj #[]))
  (h : ∀ h',(∀ c o,c ≠ a → s.heap.get? c = some o → h'.get? c = some o) → h'.get? a = some (baObj #[]) → Q (.done (.ret .none)) { s with heap := h' }) : wpS b (model prog w) A (Builtin.«bytearray.__init__» ⟨[.ref a],[]⟩) Q s := by
 unfold Builtin.«bytearray.__init__»
 refine ϰb (ϰj (ba_release ho ?_))
 refine ϱp rfl ?_
 refine ϰb (ϰj (E := fun _ _ => False) (wpAny_of_eq Fct.ba_bind0 ?_))
 refine ϰb (ϰj (E := fun _ _ => False) (wpAny_of_eq (a := ()) rfl ?_))
 refine ϰb (ϰj (E := fun _ _ => False) (wpAny_of_eq (a := ()) rfl ?_))
 refine ϰb (S_free hb ho ?_)
 refine ϱp rfl ?_
 refine ϰb (ϰj (ba_write ho (by simp) fun h' hk h2 => ?_))
 refine ϰb (ϰn (a := ()) ?_)
 exact ϰn (h _ hk h2)
theorem ba_init1 {a : Addr} {x : Array UInt8} {t : Tok} {Q : Fin → Shared → Prop} (hb : b = true) (ho : s.heap.get? a = some (baObj #[])) (hz : x.size ≤ 16777216)
  (h : ∀ h',(∀ c o,c ≠ a → s.heap.get? c = some o → h'.get? c = some o) → h'.get? a = some (baObj x) → Q (.done (.ret .none)) { s with heap := h' }) : wpS b (model prog w) A (Builtin.«bytearray.__init__» ⟨[.ref a,.bytes x t],[]⟩) Q s := by
 unfold Builtin.«bytearray.__init__»
 refine ϰb (ϰj (ba_release ho ?_))
 refine ϱp rfl ?_
 refine ϰb (ϰj (E := fun _ _ => False) (wpAny_of_eq (Fct.ba_bind1 _) ?_))
 refine ϰb (ϰj (E := fun _ _ => False) (wpAny_of_eq (a := ()) rfl ?_))
 refine ϰb (ϰj (E := fun _ _ => False) (wpAny_of_eq (a := ()) rfl ?_))
 refine ϰb (S_free hb ho ?_)
 refine ϱp rfl ?_
 refine ϰb (ϰj (ba_write ho (by simp) fun h' hk h2 => ?_))
 refine ϰb (ϰj (E := fun _ _ => False) (wpAny_of_eq (a := (none : Option Str)) rfl ?_))
 refine ϱp rfl ?_
 refine ϰb (ϰn (a := ()) ?_)
 refine ϰb (ϰj (E := fun _ _ => False) (wpAny_of_eq (KBy.special_eq Fct.bytes_no_index) ?_))
 refine ϱp rfl ?_
 refine ϰb (ϰj (bytes_buf ?_))
 refine ϰb (ϰj (E := fun _ _ => False) (wpAny_rule ?_))
 refine ϰb (ϰj (ba_write h2 hz fun h'' hk' h3 => ?_))
 exact ϰn (h _ (fun c o hc e => hk' c o hc (hk c o hc e)) h3)
end
section
variable {c : Cx} {σ : St} {Φ : AV → St → Prop}
theorem Holds.newBA {T fr : Led} {s : Shared} (H : Holds c σ T fr s) {a : Addr} {h' : Heap} {x : Array UInt8} {ks : List Int} (hx : KBw.bInts x = ks) (lt : s.heap.objs.size ≤ a) (hk : ∀ c o,s.heap.get? c = some o → h'.get? c = some o) (ha : h'.get? a = some (baObj x)) (k : Nat) :
  Holds c { σ with hp := (a,.bytearray ks) :: σ.hp } T fr { s with heap := h',toks := k } := by
 obtain ⟨m,F,hl⟩ := H.fr_
 obtain ⟨L,ho,N,nd⟩ := H.own
 have F' : Fr c.h0 c.L h' m := F.after hk
 have hL : c.L < s.heap.objs.size := F.ns.lt
 have N' : News c.h0 c.L h' ((a,baObj x) :: (L ++ (T ++ fr))) := by
  intro p hp
  rcases List.mem_cons.mp hp with rfl | hp
  ·refine ⟨ha,Nat.ne_of_gt (Nat.lt_of_lt_of_le hL lt),?_⟩
   cases q : c.h0.get? a with
   | none => rfl
   | some o => exact absurd (Heap.lt_size (F.keep _ _ q)) (Nat.not_lt_of_le lt)
  ·exact ⟨hk _ _ (N p hp).1,(N p hp).2⟩
 exact H.made hl ho nd (ao := .bytearray ks) ⟨x,0,rfl,rfl,hx⟩ (fun p hp => Nat.lt_of_lt_of_le (Heap.lt_size (N p hp).1) lt) F' N' k
theorem WVs.ba0 (hb : c.cb = true) (h : ∀ a,Φ (.ref a) { σ with hp := (a,.bytearray []) :: σ.hp }) : WVs c (.raw (.type "bytearray")) [] σ Φ := fun T fr s v vs Q H r rs k => by
 cases r.raw_inv
 simp only [VRn,VRc] at rs;subst rs
 refine S_callBA (fun o => Fct.ba_args_init1 o) fun a h' lt hk ha => ?_
 refine ba_init0 hb ha fun h'' hk' h2 => ⟨rfl,?_⟩
 exact k _ _ _ T _ (.refl T) (H.newBA rfl lt (fun c o e => hk' c o (fun q => by subst q;exact absurd (Heap.lt_size e) (Nat.not_lt_of_le lt)) (hk c o e)) h2 _) .of_ref (h a)
theorem WVs.ba1 {ks : List Int} (hb : c.cb = true) (hz : ks.length ≤ 16777216) (h : ∀ a,Φ (.ref a) { σ with hp := (a,.bytearray ks) :: σ.hp }) : WVs c (.raw (.type "bytearray")) [.bytes ks] σ Φ := fun T fr s v vs Q H r rs k => by
 cases r.raw_inv
 obtain ⟨v,rfl,rv⟩ := rs.one
 obtain ⟨x,t,rfl,hx⟩ := rv.bytes_inv
 refine S_callBA (fun o => Fct.ba_args_init2 o _) fun a h' lt hk ha => ?_
 refine ba_init1 hb ha (by rw [ϱM hx];exact hz) fun h'' hk' h2 => ⟨rfl,?_⟩
 exact k _ _ _ T _ (.refl T) (H.newBA hx lt (fun c o e => hk' c o (fun q => by subst q;exact absurd (Heap.lt_size e) (Nat.not_lt_of_le lt)) (hk c o e)) h2 _) .of_ref (h a)
end
end Mine
namespace Mine
section
variable {b : Bool} {prog : Program} {w : World} {A : Around} {s : Shared}
theorem ba_payload {a : Addr} {x : Array UInt8} {Q : Array UInt8 → Shared → Prop} (ho : s.heap.get? a = some (baObj x)) (h : Q x s) : wpAny (model prog w) A (Builtin.Bytes.payload (.ref a)) Q (fun _ _ => False) s := by
 unfold Builtin.Bytes.payload Builtin.Bytes.payload?
 refine wpAny_bind (wpAny_bind (wpAny_load ho ?_))
 exact wpAny_pure (wpAny_pure h)
theorem bytes_take {id : String} {x : Array UInt8} {t : Tok} {fl : Int} {Q : Option (Array UInt8 × Option Value) → Shared → Prop} (h : Q (some (x,none)) s) : wpAny (model prog w) A (Builtin.Bytes.takeBufferQuiet? id (.bytes x t) fl) Q (fun _ _ => False) s := by
 unfold Builtin.Bytes.takeBufferQuiet?
 refine wpAny_bind (wpAny_attempt ?_)
 unfold Builtin.Bytes.takeBuffer?
 refine wpAny_bind (wpAny_of_eq (KBy.special_eq KBy.look_buffer) ?_)
 dsimp only
 refine wpAny_bind (wpAny_of_eq KBy.own_buffer ?_)
 refine bm_if_false rfl ?_
 refine wpAny_bind (wpAny_of_eq (KBy.special_eq KBy.look_buffer) ?_)
 refine wpAny_bind (wpAny_mono (bytes_buf (Q := fun r s' => r = some x ∧ s' = s) ⟨rfl,rfl⟩) (fun r s' e => ?_) fun _ _ e => e.elim)
 obtain ⟨rfl,rfl⟩ := e
 exact wpAny_pure (wpAny_pure h)
theorem ba_resize {a : Addr} {x : Array UInt8} {Q : Unit → Shared → Prop} (hb : b = true) (ho : s.heap.get? a = some (baObj x)) (h : Q () s) : wpS b (model prog w) A (Builtin.Bytes.checkResize (.ref a)) Q s := by
 unfold Builtin.Bytes.checkResize
 refine ϰb (S_free hb ho ?_)
 refine ϱp rfl ?_
 exact ϰn h
theorem ba_extend {a : Addr} {x y : Array UInt8} {t : Tok} {Q : Value → Shared → Prop} (hb : b = true) (ho : s.heap.get? a = some (baObj x)) (hz : x.size + y.size ≤ 16777216)
  (h : ∀ h',(∀ c o,c ≠ a → s.heap.get? c = some o → h'.get? c = some o) → h'.get? a = some (baObj (x ++ y)) → Q .none { s with heap := h' }) :
  wpS b (model prog w) A (call (.builtin "bytearray.extend") [.ref a,.bytes y t]) Q s := by
 have hT := ϰbe ho
 refine ϰaO (ϰbb (by decide +kernel) Fct.ba_entry_extend rfl (Fct.ba_slot_extend.check _ _ _ _ _ _ _ _ hT (Fct.ba_args_extend _ _) rfl) ?_)
 unfold Builtin.«bytearray.extend»
 refine ϰb (ϰj (E := fun _ _ => False) (wpAny_of_eq (a := (Value.ref a,Value.bytes y t)) rfl ?_))
 dsimp only
 refine ϰb (ϰj (E := fun _ _ => False) (wpAny_of_eq (KBy.special_eq KBy.look_buffer) ?_))
 refine S_if_true rfl ?_
 refine ϰb (ϰj (E := fun _ _ => False) (wpAny_rule ?_))
 refine ϰb (ϰj (ba_payload ho ?_))
 refine ϰb (ϰj (bytes_take ?_))
 dsimp only
 refine S_if_true rfl ?_
 have fin : ∀ {R' : Fin → Shared → Prop},(∀ h',(∀ c o,c ≠ a → s.heap.get? c = some o → h'.get? c = some o) → h'.get? a = some (baObj (x ++ y)) → R' (.done (.ret .none)) { s with heap := h' }) →
   wpS b (model prog w) A.in1 (do Builtin.Bytes.write (.ref a) (· ++ y);ret .none) R' s := by
  intro R' hR
  refine ϰb (ϰj (ba_write ho (by simp;exact ω1 [] [_,_] (.Le (.a ν0 ν1) (.n 16777216)) (.Le (.a ν0 ν1) (.n 16777216)) hz rfl) fun h' hk h2 => ?_))
  exact ϰn (hR h' hk h2)
 show wpS b (model prog w) A.in1 (if (!y.isEmpty) = true then _ else _) _ s
 by_cases he : y.isEmpty = true
 ·refine ϱp (by rw [he];rfl) ?_
  exact fin fun h' hk h2 => h h' hk h2
 ·refine S_if_true (by simp only [Bool.not_eq_true] at he;rw [he];rfl) ?_
  refine ϰb (ba_resize hb ho ?_)
  exact fin fun h' hk h2 => h h' hk h2
theorem call_len_ba {a : Addr} {x : Array UInt8} {Q : Value → Shared → Prop} (ho : s.heap.get? a = some (baObj x)) (hz : x.size ≤ 16777216)
  (h : Q (.int x.size (s.toks + 1)) { s with toks := s.toks + 1 + 1 }) : wpAny (model prog w) A (call (.builtin "len") [.ref a]) Q (fun _ _ => False) s := by
 have hT := ϰbe ho
 refine call_function_entry kind_len plain_len entry_len (args_len1 _) ?_
 unfold Builtin.«len»
 refine wpAny_bind (m := oneArg "len" _) (wpAny_pure ?_)
 refine wpAny_bind (m := callSpecial? (.ref a) (Str.ofString "__len__")) (wpAny_callSpecial?_slot (name := Str.ofString "__len__") hT Fct.ba_slot_len
  (wpAny_call_entry Fct.ba_slot_len hT Fct.ba_entry_len ?_ (Fct.ba_args_len _)))
 unfold Builtin.«bytearray.__len__»
 refine wpAny_bind (wpAny_of_eq (a := (Value.ref a,[])) rfl ?_)
 dsimp only
 refine wpAny_bind (ba_payload ho ?_)
 refine wpAny_bind (wpAny_mkInt (wpAny_pure ⟨_,rfl,?_⟩))
 refine wpAny_bind (wpAny_holding (wpAny_pure ?_))
 refine wpAny_bind (wpAny_letGo ?_)
 show wpAny _ _ (if ((x.size : Nat) : Int) < 0 then _ else _) _ _ _
 rw [if_neg (by exact κ0 [] [_] (.nlt (.c ν0) (.n 0)) [1] rfl)]
 show wpAny _ _ (if ((x.size : Nat) : Int) ≥ 2 ^ 63 then _ else _) _ _ _
 rw [if_neg (by exact ω1 [] [_] (.nle (.n 9223372036854775808) (.c ν0)) (.Le ν0 (.n 16777216)) hz rfl)]
 exact wpAny_bind (wpAny_mkInt (wpAny_pure ⟨_,rfl,h⟩))
end
section
variable {c : Cx} {σ : St} {Φ : AV → St → Prop}
theorem ϰaU {a : Addr} {ks : List Int} {rest : List (Addr × AO)} (pk : Pick (a,.bytearray ks) σ.hp rest) (hz : ks.length ≤ 16777216) (h : Φ (.int ks.length) σ) : WVs c (.raw (.builtin "len")) [.ref a] σ Φ := fun T fr s v vs Q H r rs k => by
 cases r.raw_inv
 obtain ⟨v,rfl,rv⟩ := rs.one
 cases rv.ref_inv
 obtain ⟨x,hx1,hx2⟩ := H.ba pk
 have e := ϱM hx2
 refine ϰj (call_len_ba hx1 (by rw [e];exact hz) (k _ _ σ T _ (.refl T) (H.toks _) .of_int ?_))
 rw [e];exact h
theorem mc_eq {o : Expr} {name : Str} {apos pos : Pos} {args : List Expr} {env : Env} : True := trivial
theorem WE.append {o apos pos} {e : Expr} (h : WE c o σ fun a σ1 => ∃ l its rest,a = .ref l ∧ Pick (l,.list its) σ1.hp rest ∧ WE c e σ1 fun v σ2 => ∃ its rest,Pick (l,.list its) σ2.hp rest ∧ its.length ≤ 16777216 ∧ Φ .none { σ2 with hp := (l,.list (its ++ [v])) :: rest })
  (pl : Sem Bool) (hp : plainArgs c pos [e]) (hse : starEach [e] c.env = (false,eval e c.env) :: starEach [] c.env)
  (he : eval (.Call (.Attribute o "append" apos) [e] [] pos) c.env = (do
   let ov ← eval o c.env
   standAt apos.atName
   let (f,first) ← holding [ov] (getMethod ov "append" pl)
   callWith pos f first (backTo pos (starEach [e] c.env)) [])) : WE c (.Call (.Attribute o "append" apos) [e] [] pos) σ Φ := fun T fr s Q H k => by
 refine ϰak (pl := pl) (h T fr s _ H fun a va σ1 T1 s1 e1 H1 r1 h1 => ?_) he
 obtain ⟨l,its,rest,rfl,pk,h2⟩ := h1
 cases r1.ref_inv
 obtain ⟨L,L',⟨vs,n,rfl,rl⟩,_,N,_⟩ := H1.pick pk
 refine ϰj (E := fun _ _ => False) (listMethod_K (D := l) (its := vs.toArray) (n := n) N (by simp) PySem.F.slot_list_append PySem.F.type_list_append ?_)
 refine ϱL (Φ := fun as σ2 => ∃ v,as = [v] ∧ ∃ its rest,Pick (l,.list its) σ2.hp rest ∧ its.length ≤ 16777216 ∧ Φ .none { σ2 with hp := (l,.list (its ++ [v])) :: rest }) (.inr rfl) hp
  (ϰe (W.mono h2 fun v σ2 hv => ϰl ⟨v,rfl,hv⟩) hse) H1 fun as vs2 σ2 T2 s2 e2 H2 r2 h3 => ?_
 obtain ⟨v,rfl,its2,rest2,pk2,hz,hφ⟩ := h3
 obtain ⟨vv,rfl,rv⟩ := r2.one
 obtain ⟨m,F,hl⟩ := H2.fr_
 obtain ⟨L2,L2',⟨ws,n2,rfl,rw2⟩,ho2,N2,nd2⟩ := H2.pick pk2
 refine ϰj (E := fun _ _ => False) (append_K F N2 (upd_of (o' := listOf (ws.toArray.push vv) (n2 + 1)) nd2) (fun h' F' N' => ?_) (by rw [List.size_toArray,rw2.length];rw [sizeLine_eq];exact hz))
 refine k _ _ _ T2 _ (e1.trans e2) (H2.set1 (o := listOf ws.toArray n2) (o' := listOf (ws.toArray.push vv) (n2 + 1)) hl ho2 nd2 (ao' := .list (its2 ++ [v])) ⟨ws ++ [vv],n2 + 1,?_,rw2.append (.cons rv .nil)⟩ F' N' _) .of_none hφ
 simp
theorem WE.extend {y py apos pos} {e : Expr} {a : Addr} (hb : c.cb = true) (g : GetL y (.ref a) σ.loc) {ks0 : List Int} {rest0 : List (Addr × AO)} (pk0 : Pick (a,.bytearray ks0) σ.hp rest0)
  (h : WE c e σ fun v σ2 => ∃ ks ls rest,v = .bytes ls ∧ Pick (a,.bytearray ks) σ2.hp rest ∧ ks.length + ls.length ≤ 16777216 ∧ Φ .none { σ2 with hp := (a,.bytearray (ks ++ ls)) :: rest })
  (pl : Sem Bool) (hp : plainArgs c pos [e]) (hse : starEach [e] c.env = (false,eval e c.env) :: starEach [] c.env)
  (he : eval (.Call (.Attribute (.Name y py) "extend" apos) [e] [] pos) c.env = (do
   let ov ← eval (.Name y py) c.env
   standAt apos.atName
   let (f,first) ← holding [ov] (getMethod ov "extend" pl)
   callWith pos f first (backTo pos (starEach [e] c.env)) [])) : WE c (.Call (.Attribute (.Name y py) "extend" apos) [e] [] pos) σ Φ := fun T fr s Q H k => by
 refine ϰak (pl := pl) ((ϰa (pos := py) (Φ := fun a' σ1 => a' = .ref a ∧ σ1 = σ) g ⟨rfl,rfl⟩) T fr s _ H fun a va σ1 T1 s1 e1 H1 r1 h1 => ?_) he
 obtain ⟨rfl,rfl⟩ := h1
 cases r1.ref_inv
 obtain ⟨x,hx1,hx2⟩ := H1.ba pk0
 refine ϰj (E := fun _ _ => False) (getMethod_builtin (ϰbe hx1) Fct.ba_ga Fct.ba_slot_extend Fct.ba_type_extend (fun a' e => by cases e;exact ⟨_,hx1,rfl⟩) ?_)
 refine ϱL (Φ := fun as σ2 => ∃ v,as = [v] ∧ ∃ ks ls rest,v = .bytes ls ∧ Pick (a,.bytearray ks) σ2.hp rest ∧ ks.length + ls.length ≤ 16777216 ∧ Φ .none { σ2 with hp := (a,.bytearray (ks ++ ls)) :: rest }) (.inr rfl) hp
  (ϰe (W.mono h fun v σ2 hv => ϰl ⟨v,rfl,hv⟩) hse) H1 fun as vs2 σ2 T2 s2 e2 H2 r2 h3 => ?_
 obtain ⟨v,rfl,ks,ls,rest2,rfl,pk2,hz,hφ⟩ := h3
 obtain ⟨vv,rfl,rv⟩ := r2.one
 obtain ⟨z,t,rfl,hz2⟩ := rv.bytes_inv
 obtain ⟨m,F,hl⟩ := H2.fr_
 obtain ⟨L2,L2',⟨w2,n2,rfl,rfl,hw2⟩,ho2,N2,nd2⟩ := H2.pick pk2
 have h0 : s2.heap.get? a = some (baObj w2) := (N2 (a,baObj w2) (by simp)).1
 refine ba_extend hb h0 (by rw [ϱM hw2,ϱM hz2];exact hz) fun h' hk h2 => ?_
 refine k _ _ _ T2 _ (e1.trans e2) (H2.update (o := .bytearray ks) (pre := []) (post := []) (d := a) (ob := baObj w2) (ob' := baObj (w2 ++ z)) (ao' := .bytearray (ks ++ ls)) ho2 N2 nd2 ⟨_,0,rfl,rfl,KBw.ints_app hw2 hz2⟩ hk h2 _) .of_none hφ
end
end Mine
namespace Mine
noncomputable def top0 : PySem.Ctx := ⟨.builtin "claim.caller" {},none,none,[],none⟩
theorem top0_clean : Clean top0 := ⟨by decide,fun x hx => by cases hx⟩
noncomputable def wpT (M : Model) (t : Sem Fin) (R : Result → Shared → Prop) (s : Shared) : Prop :=
 Sem.wp M top0 t (fun fin _ s' => ∃ f,fin = .done f ∧ R (.ok f) s') (fun e _ s' => R (.error e) s') default s
theorem wpT.mono {M : Model} {t : Sem Fin} {R R' : Result → Shared → Prop} {s : Shared} (h : wpT M t R s) (hR : ∀ r s',R r s' → R' r s') : wpT M t R' s :=
 Sem.wp_mono M top0 t (fun fin _ s' ⟨f,e,x⟩ => ⟨f,e,hR _ _ x⟩) (fun e _ s' x => hR _ _ x) default s h
theorem wpT.of {M : Model} {t : Sem Fin} {Q : Fin → Shared → Prop} {R : Result → Shared → Prop} {s : Shared} (h : wpS true M callerA t Q s) (hQ : ∀ fin s',Q fin s' → ∃ f,fin = .done f ∧ R (.ok f) s') : wpT M t R s :=
 Sem.wp_mono M top0 t (fun fin _ s' x => hQ fin s' x) (fun _ _ _ x => x.elim) default s (h top0 default caller_in fun _ => top0_clean)
theorem ends_T {prog : Program} {w : World} {t : Sem Fin} {s : Shared} {R : Result → Shared → Prop} (hreg : s.asleep)
  (h : wpT (model prog w) t (fun r s' => R r s' ∧ leftWithCleanup s'.gens = false) s) :
  ∃ n r s' s'',runN (denote table) prog w n s ⟨t,.builtin "claim.caller" {},default,[]⟩ = .halted (outcomeOf r) s' ∧
   schedN (denote table) prog w n (.single s ⟨t,.builtin "claim.caller" {},default,[]⟩) = .halted (outcomeOf r) s' ∧ s'.forget = s''.forget ∧ R r s'' := by
 have h' : Sem.wp (model prog w) top0 t (Sem.finPost (model prog w) top0 fun r s' => R r s' ∧ leftWithCleanup s'.gens = false) (fun e _ s' => R (.error e) s' ∧ leftWithCleanup s'.gens = false) default s :=
  Sem.wp_mono _ _ t (fun fin p' s' x => by obtain ⟨f,rfl,y⟩ := x;exact y) (fun _ _ _ x => x) default s h
 obtain ⟨n,r,s₁,s₂,hs,hn,hfo,hR⟩ := wp_halts_full (M := model prog w) (R := R) hreg h'
 exact ⟨n,r,s₂,s₁,hn,hs,hfo,hR⟩
theorem callFrom_T {c : ClaimW} {tree : List Value → Sem Fin} {w : World} {s : Shared} {free : Addr → Prop} {gens : Prop} {kept : Heap → Prop} (hz : s.asleep) (hgens : s.gens = #[])
  (spec : ∀ args,c.pre args = true → WData.layableAll args = true → ∀ ord : List DictEntry → List DictEntry,(∀ l,(ord l).Perm l) →
   ∃ vs s₁,layAllW c.records (classAt s.heap) w.params ord args s = some (vs,s₁) ∧
    wpT (model c.prog w) (tree vs) (fun r s' => c.Ends s args vs s₁ r s' ∧ s'.os = s.os ∧ AllBare s'.gens ∧ kept s'.heap) s₁) :
  c.CallFrom (fun vs => ⟨tree vs,.builtin "claim.caller" {},default,[]⟩) w free gens kept s := by
 intro args hpre hlay ord hord
 obtain ⟨vs,s₁,hlaid,h⟩ := spec args hpre hlay ord hord
 have rest := layAllW_rest _ _ _ hlaid
 obtain ⟨k,r,s',s'',hrun,hsched,hfo,hends,hos,hkp⟩ := ends_T (R := fun r s' => c.Ends s args vs s₁ r s' ∧ s'.os = s.os ∧ kept s'.heap)
  (Shared.asleep_of_life rest.2.2.2 hz) (h.mono fun r s' ⟨a,b,d,e⟩ => ⟨⟨a,b,e⟩,leftWithCleanup_false_of_bare d⟩)
 obtain ⟨eh,_,_,eo,_⟩ := Shared.forget_eq hfo
 have hends := hends.congr eh
 have hkp : kept s'.heap := by rw [eh];exact hkp
 rw [← eo] at hos
 refine ⟨vs,s₁,hlaid,k,_,s',hsched,?_,fun _ i x hx => by rw [hgens] at hx;simp at hx,hkp,by rw [(runN_life _ _ _ hrun).trans rest.2.2.2],Shared.rest_eq hos⟩
 exact Or.imp (fun h => Exists.elim h fun v p => ⟨v,congrArg outcomeOf p.1,p.2.1,p.2.2.1,p.2.2.2.1,fun b o y _ => p.2.2.2.2.1 b o y,p.2.2.2.2.2⟩) (fun h => Exists.elim h fun e h => Exists.elim h fun ob h => Exists.elim h fun cls p => ⟨e,ob,cls,congrArg outcomeOf p.1,p.2.1,p.2.2.1,p.2.2.2.1,p.2.2.2.2.1,fun b o y _ => p.2.2.2.2.2 b o y⟩) hends
noncomputable abbrev Walk0 (q : Program) (loose : List Str) (XP : (Str → Option Value) → Heap → Prop) (YP : World → Heap → Prop) (r : RowW) (d : DefRec) (kwd : List (Str × Expr)) : Prop :=
 ∀ (w : World) (s₀ s₁ : Shared) (mg mb : Str → Option Value),Ground q loose r.records XP w s₀ mg mb s₁.heap → YP w s₁.heap → ∀ (a : Addr) (o : Obj) (pm cd doc dV kV : Value),s₁.heap.get? a = some o →
  o.data = .func { docDef d.name d.params d.body d.scope pm cd doc with defaults := dV,kwdefaults := kV } → s₁.heap.CodeRec cd d.name → Dflts mg s₁.heap d.params kwd dV kV → mg d.name = some (.ref a) → s₁.gens = #[] →
  ∀ (args : List WData) (vals : List Value) (as : List Addr),r.claim.pre args = true → WData.layableAll args = true → ReadsAllW r.records (classAt s₀.heap) s₁.heap vals args as → WellAll w.params s₁.heap vals args → (∀ a ∈ as,(a == sysModules) = false) →
   wpS true (model r.prog w) callerA (PySem.call (.ref a) vals) (fun v s' => GoodWG r.claim (classAt s₀.heap) (ExcName.means s₀.heap) args s₁ (.ok (.ret v)) s') s₁
theorem PySem.W.holds_open {r : OpenRow} {q : Program} {loose : List Str} {Xt : Shared → Bool} {XP : (Str → Option Value) → Heap → Prop} {α : Type} {Yf : Shared → α} {Ya : World → α} {YP : World → Heap → Prop} {d : DefRec} {kwd : List (Str × Expr)} {N : Nat}
  (left : LeftO r.prog q loose Xt Yf Ya N) (hY : ∀ w s,Yf s = Ya w → YP w s.heap) (hYk : ∀ w h h',YP w h → (∀ b o,h.get? b = some o → h'.get? b = some o) → YP w h')
  (hX : ∀ s,Xt s = true → XP (s.heap.nsMap mainGlobals) s.heap) (hXk : ∀ mg h h',XP mg h → (∀ b o,h.get? b = some o → h'.get? b = some o) → XP mg h')
  (hdef : defOf q r.name = some (d,kwd)) (hp : r.prog.theDef r.name = some (d.params,d.body,d.scope)) (hk : kwWritten? d.params.kwonlyargs d.params.kw_defaults = some kwd) (hRf : ∀ s,Xt s = true → RecFacts r.records s.heap) (hwr : (!r.writes || r.records.isEmpty) = true)
  (k1 : r.wellSaid = true) (ok : (chainsOk q && opensWell r.prog && (frees r.toRowW && r.within.isEmpty)) = true) (hb : r.prog.bare) (hw : r.toRowW.promised)
  (call : Walk0 q loose XP YP r.toRowW d kwd) : r.Holds := by
 obtain ⟨ok,k5⟩ := Bool.and_eq_true_iff.mp ok
 obtain ⟨hch,o1⟩ := Bool.and_eq_true_iff.mp ok
 obtain ⟨k5,k6⟩ := Bool.and_eq_true_iff.mp k5
 obtain ⟨hsame,hu,ha,hap,hm⟩ := frees_parts k5
 refine ⟨k1,hw,?_⟩
 refine ⟨⟨hb,o1,by show r.makers.map _ = [];rw [hm];rfl⟩,hw.witness,fun w => ⟨(left.behind hX hch w).1,fun s' hs' => ?_⟩⟩
 obtain ⟨s₀,hf,hg0,s,hT,hz,hgens,hg,G00,y⟩ := (left.behind (XP := fun mg h => XP mg h ∧ RecFacts r.records h) (fun s hs => ⟨hX s hs,hRf s hs⟩) hch w).2 s' hs'
 have G0 : Ground q loose [] XP w s (s.heap.nsMap mainGlobals) (s.heap.nsMap builtinsNs) s.heap := ⟨G00.T,G00.B,G00.D,G00.TE,G00.TD,G00.W,G00.X.1,G00.cls,G00.has,G00.apart,G00.once,G00.K⟩
 have RF := G00.X.2
 refine ⟨s₀,hf,hg0,s,hT,fun n hn => ?_,RF.1,RF.2.1,?_⟩
 ·obtain rfl : n = r.name := by split at hn <;> simp_all
  exact pinned_of_view hg G0 hdef hp hk
 ·have hgens : s.gens = #[] := Array.eq_empty_of_size_eq_zero (beq_iff_eq.mp hgens)
  have G : Ground q loose r.records XP w s _ _ s.heap := RF.ground G0
  refine callFrom_T (c := r.toRowW.claim) hz hgens fun args hpre hlay ord hord => ?_
  obtain ⟨⟨vs,s₁⟩,hlaid⟩ := Option.isSome_iff_exists.mp (layAllW_isSome (P := w.params) (ord := ord) G.has args r.args s (pre_splitW hpre).1)
  have keeps := layAllW_keeps _ _ _ hlaid
  have hal := layAllW_rest _ _ _ hlaid
  obtain ⟨as,hrd,hin,hold⟩ := reads_layAllW hord _ _ _ hlaid hlay s₁.heap (fun _ _ e => e)
  have L : Laid r.records w s s₁ args vs as := ⟨⟨ord,hord,hlaid⟩,hrd,hin,hold,keeps,hal.1.trans hgens,hal.2.2.1⟩
  have G₁ := G.keeps hXk keeps
  obtain ⟨a,o,pm,cd,doc,dV,kV,h1,h2,h3,h4,h5⟩ := G₁.fn hdef
  have h := call w s s₁ _ _ G₁ (hYk _ _ _ (hY w s y) keeps) a o pm cd doc dV kV h2 h3 h4 h5 (defOf_name hdef ▸ h1) L.gens args vs as hpre hlay L.reads L.well (L.low G.low)
  have hi := ident_freeW hu ha hap
  have hwi : r.toRowW.claim.within = [] := List.isEmpty_iff.mp k6
  refine ⟨vs,s₁,hlaid,wpT.of (Q := fun fin s' => ∃ v,fin = .done (.ret v) ∧ GoodWG r.toRowW.claim (classAt s.heap) (ExcName.means s.heap) args s₁ (.ok (.ret v)) s') ?_ fun fin s' ⟨v,e,g⟩ => ⟨_,e,
   have z := g.laid (c := r.toRowW.claim) hsame hwi hi L;⟨z.1,z.2.1,z.2.2,fun q => ⟨namesKept_of hT hg _ keeps g.2.1.old,noTable hwr q⟩⟩⟩⟩
  refine ϰb (ϰj (wpAny_nsGet (E := fun _ _ => False) G₁.T.g ?_))
  rw [h1]
  exact ϰb (ϰk h fun v s' g => ϰn ⟨v,rfl,g⟩)
end Mine
namespace Mine
section
variable {c : Cx} {σ : St}
theorem ϰd {rest : List Stmt} {Φ : AFl → St → Prop} (h : WSs c rest σ Φ) : seqK c rest Φ .next σ := h
theorem ϰm {rest : List Stmt} {Φ : AFl → St → Prop} {v : AV} (h : Φ (.ret v) σ) : seqK c rest Φ (.ret v) σ := h
theorem seqK_brk {rest : List Stmt} {Φ : AFl → St → Prop} (h : Φ .brk σ) : seqK c rest Φ .brk σ := h
theorem seqK_cont {rest : List Stmt} {Φ : AFl → St → Prop} (h : Φ .cont σ) : seqK c rest Φ .cont σ := h
theorem ϱg {Φ : AV → List (Addr × AO) → Prop} {l : List (Str × Option AV)} {hp : List (Addr × AO)} (h : Φ .none hp) : retK Φ .next ⟨l,hp⟩ := h
theorem ϰx {Φ : AV → List (Addr × AO) → Prop} {v : AV} {l : List (Str × Option AV)} {hp : List (Addr × AO)} (h : Φ v hp) : retK Φ (.ret v) ⟨l,hp⟩ := h
theorem ϱJ {ι : Type} {P : ι → Prop} {μ : ι → Nat} {I : ι → St} {n : Nat} {Φ : AFl → St → Prop} {v : AV} (h : Φ (.ret v) σ) : loopK c P μ I n Φ (.ret v) σ := h
theorem loopK_brk {ι : Type} {P : ι → Prop} {μ : ι → Nat} {I : ι → St} {n : Nat} {Φ : AFl → St → Prop} (h : Φ .next σ) : loopK c P μ I n Φ .brk σ := h
theorem loopK_next {ι : Type} {P : ι → Prop} {μ : ι → Nat} {I : ι → St} {n : Nat} {Φ : AFl → St → Prop} (i : ι) (h : P i) (hm : μ i < n) (e : Le σ (I i)) : loopK c P μ I n Φ .next σ := ⟨i,h,hm,e⟩
theorem forK_ret {ι : Type} {P : Nat → ι → Prop} {J : Nat → ι → St} {k : Nat} {Φ : AFl → St → Prop} {v : AV} (h : Φ (.ret v) σ) : forK P J k Φ (.ret v) σ := h
theorem ϱK {ι : Type} {P : Nat → ι → Prop} {J : Nat → ι → St} {k : Nat} {Φ : AFl → St → Prop} (d : ι) (h : P (k + 1) d) (e : Le σ (J (k + 1) d)) : forK P J k Φ .next σ := ⟨d,h,e⟩
theorem WS.assign' {x px value pos} {Φ : AFl → St → Prop} (h : WE c value σ fun a σ1 => ∃ loc',SetL x a σ1.loc loc' ∧ Φ .next ⟨loc',σ1.hp⟩)
  (hs : swapsWith value (some (.Name x px)) pos.line c.env = pure false := by rfl) : WS c (.Assign [.Name x px] value pos) σ Φ := WS.assign h hs
theorem WT.cmpB {l op r pos} {Φ : Bool → St → Prop} (h : WE c l σ fun a σ1 => WE c r σ1 fun b σ2 => WCmp c op a b σ2 fun v σ3 => ∃ b,v = .bool b ∧ Φ b σ3) (hm : behindInMarks op r = false := by rfl) :
  WT c (.Compare l [op] [r] pos) σ Φ := ϰu h hm
theorem setK {x : Str} {av : AV} {l l' : List (Str × Option AV)} {P : List (Str × Option AV) → Prop} (s : SetL x av l l') (h : P l') : ∃ l',SetL x av l l' ∧ P l' := ⟨_,s,h⟩
theorem isB {b : Bool} {P : Bool → Prop} (h : P b) : ∃ d,(AV.bool b) = .bool d ∧ P d := ⟨b,rfl,h⟩
theorem isI {i : Int} {P : Int → Prop} (h : P i) : ∃ j,(AV.int i) = .int j ∧ P j := ⟨i,rfl,h⟩
theorem isY {i : List Int} {P : List Int → Prop} (h : P i) : ∃ j,(AV.bytes i) = .bytes j ∧ P j := ⟨i,rfl,h⟩
theorem isT {i : List AV} {P : List AV → Prop} (h : P i) : ∃ j,(AV.tup i) = .tup j ∧ P j := ⟨i,rfl,h⟩
theorem dT {p : Prop} [Decidable p] {P Q : Prop} (h1 : p → P) (h2 : ¬ p → Q) : (decide p = true → P) ∧ (decide p = false → Q) := ⟨fun h => h1 (of_decide_eq_true h),fun h => h2 (of_decide_eq_false h)⟩
theorem bT {b : Bool} {P Q : Prop} (h1 : b = true → P) (h2 : b = false → Q) : (b = true → P) ∧ (b = false → Q) := ⟨h1,h2⟩
theorem tT {P Q : Prop} (h1 : P) : (true = true → P) ∧ (true = false → Q) := ⟨fun _ => h1,fun h => nomatch h⟩
theorem fT {P Q : Prop} (h1 : Q) : (false = true → P) ∧ (false = false → Q) := ⟨fun h => (nomatch h),fun _ => h1⟩
theorem ϱr {n m : Nat} {P : Addr → Prop} (h : n ≤ m) (h' : ∀ l,P l) : n ≤ m ∧ ∀ l,P l := ⟨h,h'⟩
theorem tupK {n m : Nat} {P : Prop} (h : n ≤ m) (h' : P) : n ≤ m ∧ P := ⟨h,h'⟩
theorem ϰaZ {b : Bool} {P Q : Prop} (h : b = true → P) (h' : b = false → Q) : (b = true → P) ∧ (b = false → Q) := ⟨h,h'⟩
theorem splitK' {b : Bool} {P Q : Prop} (h : b = false → P) (h' : b = true → Q) : (b = false → P) ∧ (b = true → Q) := ⟨h,h'⟩
theorem len1 {vs : List Value} (h : vs.length = 1) : ∃ a,vs = [a] := List.length_eq_one_iff.mp h
theorem lenS {vs : List Value} {n : Nat} (h : vs.length = n + 1) : ∃ a t,vs = a :: t ∧ t.length = n := by
 cases vs with
 | nil => cases h
 | cons a t => exact ⟨a,t,rfl,Nat.succ.inj h⟩
theorem len2 {vs : List Value} (h : vs.length = 2) : ∃ a b,vs = [a,b] := by
 obtain ⟨a,t,rfl,h'⟩ := lenS h;obtain ⟨b,rfl⟩ := len1 h';exact ⟨a,b,rfl⟩
theorem len3 {vs : List Value} (h : vs.length = 3) : ∃ a b c,vs = [a,b,c] := by
 obtain ⟨a,t,rfl,h'⟩ := lenS h;obtain ⟨b,c,rfl⟩ := len2 h';exact ⟨a,b,c,rfl⟩
theorem len4 {vs : List Value} (h : vs.length = 4) : ∃ a b c d,vs = [a,b,c,d] := by
 obtain ⟨a,t,rfl,h'⟩ := lenS h;obtain ⟨b,c,d,rfl⟩ := len3 h';exact ⟨a,b,c,d,rfl⟩
theorem len5 {vs : List Value} (h : vs.length = 5) : ∃ a b c d e,vs = [a,b,c,d,e] := by
 obtain ⟨a,t,rfl,h'⟩ := lenS h;obtain ⟨b,c,d,e,rfl⟩ := len4 h';exact ⟨a,b,c,d,e,rfl⟩
structure Fix (K : Params → Frag) (c : Cx) (n : Nat) : Prop where
 K : c.K = K c.w.params
 dp : c.dp + n < 900
theorem Inner.fix {K : Params → Frag} {c c' : Cx} {dp un n : Nat} {scope : Scope} {cl : List (Str × Addr) → Prop} {G : List (Str × AV)} (I : Inner c c' dp un scope cl G) (hK : c.K = K c.w.params) (hn : dp + 1 + n < 900) : Fix K c' n :=
 ⟨by rw [I.K,I.w];exact hK,by rw [I.dp];exact hn⟩
theorem room {dp n : Nat} (h : dp + n < 900) : dp < recursionLimit := by unfold recursionLimit;exact ω1 [] [_,_] (.Lt ν0 (.n 1000)) (.Lt (.a ν0 ν1) (.n 900)) h rfl
end
end Mine
namespace Mine
section
variable {c : Cx} {σ : St} {Φ : AV → St → Prop}
theorem WTruth.int {i : Int} {Φ : Bool → St → Prop} (h : Φ (decide (i ≠ 0)) σ) : WTruth c (.int i) σ Φ := fun T fr s v Q H r k => by
 obtain ⟨t,rfl⟩ := r.int_inv
 refine ϰj (PyProof.Rows.truthy_int (k _ _ σ T _ (.refl T) H rfl ?_))
 have : (i != 0) = decide (i ≠ 0) := by simp [bne,decide_not];rfl
 rw [this];exact h
theorem eqAt_bytes {A : Around} {s : Shared} (x : Array UInt8) (t : Tok) (y : Array UInt8) (u : Tok) : PySem.SeqAt.EqAt A s (.bytes x t) (.bytes y u) (x.toList == y.toList) := fun prog w E Q h => by
 unfold eqBool
 refine wpAny_holding ?_
 refine wpAny_ite_split (fun hab => ?_) (fun _ => ?_)
 ·have e : x = y := by have := eq_of_beq hab;injection this
  subst e
  exact wpAny_bind (wpAny_rule (wpAny_pure (by simpa using h)))
 ·exact wpAny_bind (eq_bytes (prog := prog) (wpAny_truthy_bool h))
theorem bytes_all : ∀ {T : Led} {ps : List (List Int)} {vs : List Value},VRs T (ps.map AV.bytes) vs → ∃ bs : List (Array UInt8 × Tok),vs = bs.map (fun p => Value.bytes p.1 p.2) ∧ bs.map (fun p => KBw.bInts p.1) = ps
 | T,[],vs,h => by simp only [List.map_nil,VRn,VRc] at h;subst h;exact ⟨[],rfl,rfl⟩
 | T,p :: ps,vs,h => by
  simp only [List.map_cons,VRn,VRc] at h
  obtain ⟨v,r,rfl,hv,hr⟩ := h
  obtain ⟨b,t,rfl,hb⟩ := hv.bytes_inv
  obtain ⟨bs,rfl,e⟩ := bytes_all hr
  exact ⟨(b,t) :: bs,rfl,by simp [hb,e]⟩
theorem ϰai {l m : Addr} {ps qs : List (List Int)} {as bs : List AV} {rest rest' : List (Addr × AO)} (ha : as = ps.map AV.bytes) (hb : bs = qs.map AV.bytes) (pk : Pick (l,.list as) σ.hp rest) (pk' : Pick (m,.list bs) σ.hp rest') (hu : c.un < cLine)
  (h : Φ (.bool (decide (ps ≠ qs))) σ) : WCmp c .NotEq (.ref l) (.ref m) σ Φ := fun T fr s v w Q H r1 r2 k => by
 subst ha hb
 cases r1.ref_inv;cases r2.ref_inv
 obtain ⟨vs,hl,rv⟩ := H.isList pk
 obtain ⟨ws,hm,rw'⟩ := H.isList pk'
 obtain ⟨xs,rfl,hx⟩ := bytes_all rv
 obtain ⟨ys,rfl,hy⟩ := bytes_all rw'
 refine ϰj (E := fun _ _ => False) (cmp_ofNotEq ?_)
 by_cases e : xs.length = ys.length
 ·refine PySem.SeqAt.RcNeAt.lists (e := fun j => (xs.getD j (#[],0)).1.toList == (ys.getD j (#[],0)).1.toList) hl hm (by simp [e]) hu (fun j h1 h2 => ?_) _ _ _ _ (k _ _ σ T _ (.refl T) H .of_bool ?_)
  ·have h1' : j < xs.length := by simpa using h1
   have h2' : j < ys.length := by simpa using h2
   simp only [List.getElem_toArray,List.getElem_map]
   rw [List.getD_eq_getElem?_getD,List.getD_eq_getElem?_getD,List.getElem?_eq_getElem h1',List.getElem?_eq_getElem h2']
   exact eqAt_bytes _ _ _ _
  ·have : (!(List.range (xs.map fun p => Value.bytes p.1 p.2).toArray.size).all fun j => (xs.getD j (#[],0)).1.toList == (ys.getD j (#[],0)).1.toList) = decide (ps ≠ qs) := by
    by_cases q : ps = qs
    ·rw [decide_eq_false (by simpa using q)]
     simp only [Bool.not_eq_false',List.all_eq_true,List.mem_range,beq_iff_eq,List.size_toArray,List.length_map]
     intro j hj
     have hj' : j < ys.length := by exact ω2 [] [_,_,_] (.Lt ν0 ν1) (.Lt ν0 ν2) (.Eq ν2 ν1) hj e rfl
     have hh : (xs.map fun p => KBw.bInts p.1)[j]? = (ys.map fun p => KBw.bInts p.1)[j]? := by rw [hx,hy,q]
     rw [List.getElem?_map,List.getElem?_map,List.getElem?_eq_getElem hj,List.getElem?_eq_getElem hj'] at hh
     have := bInts_inj (Option.some.inj hh)
     rw [List.getD_eq_getElem?_getD,List.getD_eq_getElem?_getD,List.getElem?_eq_getElem hj,List.getElem?_eq_getElem hj']
     simp [this]
    ·rw [decide_eq_true q]
     rw [Bool.not_eq_true',Bool.eq_false_iff]
     intro hall
     refine q ?_
     rw [← hx,← hy]
     refine List.ext_getElem (by simp [e]) fun j h1 h2 => ?_
     have h1' : j < xs.length := by simpa using h1
     have h2' : j < ys.length := by simpa using h2
     have := List.all_eq_true.mp hall j (by simpa using h1')
     rw [List.getD_eq_getElem?_getD,List.getD_eq_getElem?_getD,List.getElem?_eq_getElem h1',List.getElem?_eq_getElem h2'] at this
     have := Array.toList_inj.mp (beq_iff_eq.mp this)
     simp only [Option.getD_some] at this
     simp [this]
   rw [this];exact h
 ·refine PySem.SeqAt.RcNeAt.lists_lengths hl hm (by simpa using e) hu _ _ _ _ (k _ _ σ T _ (.refl T) H .of_bool ?_)
  have : ps ≠ qs := fun q => e (by rw [← hx,← hy] at q;simpa using congrArg List.length q)
  rw [decide_eq_true this] at h;exact h
theorem WBin.addL {l m : Addr} {as bs : List AV} {rest rest' : List (Addr × AO)} (pk : Pick (l,.list as) σ.hp rest) (pk' : Pick (m,.list bs) σ.hp rest') (hz : as.length + bs.length ≤ 16777216)
  (h : ∀ D,Φ (.ref D) { σ with hp := (D,.list (as ++ bs)) :: σ.hp }) : WBin c .Add (.ref l) (.ref m) σ Φ := fun T fr s v w Q H r1 r2 k => by
 cases r1.ref_inv;cases r2.ref_inv
 obtain ⟨vs,hl,rv⟩ := H.isList pk
 obtain ⟨ws,hm,rw'⟩ := H.isList pk'
 obtain ⟨m,F,hlo⟩ := H.fr_
 obtain ⟨L,ho,N,nd⟩ := H.own
 refine ϰj (add_arrays (E := fun _ _ => False) F N hl hm (fun h' F' N' => ?_) (by simp [rv.length,rw'.length];exact hz))
 refine k _ _ _ T _ (.refl T) (H.made hlo ho nd (ao := .list (as ++ bs)) ⟨_,0,rfl,?_⟩ (Holds.lt_size N) F' N' _) .of_ref (h _)
 simpa using rv.append rw'
theorem foldl_one (v : Value) : ∀ (n : Nat) (acc : Array Value),(List.foldl (fun x1 x2 => x1 ++ x2) acc (List.replicate n #[v])).toList = acc.toList ++ List.replicate n v
 | 0,acc => by simp
 | n + 1,acc => by
  rw [List.replicate_succ,List.foldl_cons,foldl_one v n]
  simp [List.replicate_succ]
theorem VRs.replicate {T : Led} {a : AV} {v : Value} (h : VR T a v) : ∀ n : Nat,VRs T (List.replicate n a) (List.replicate n v)
 | 0 => VRs.nil
 | n + 1 => by rw [List.replicate_succ,List.replicate_succ];exact .cons h (VRs.replicate h n)
theorem WBin.mulL {l : Addr} {a : AV} {n : Int} {rest : List (Addr × AO)} (pk : Pick (l,.list [a]) σ.hp rest) (h0 : 0 ≤ n) (h1 : n ≤ 16777216)
  (h : ∀ D,Φ (.ref D) { σ with hp := (D,.list (List.replicate n.toNat a)) :: σ.hp }) : WBin c .Mult (.ref l) (.int n) σ Φ := fun T fr s v w Q H r1 r2 k => by
 cases r1.ref_inv;obtain ⟨u,rfl⟩ := r2.int_inv
 obtain ⟨_,_,⟨vs,n',rfl,r⟩,_,N0,_⟩ := H.pick pk
 obtain ⟨v,rfl,rv⟩ := r.one
 obtain ⟨m,F,hlo⟩ := H.fr_
 obtain ⟨L,ho,N,nd⟩ := H.own
 refine ϰj (E := fun _ _ => False) (mul_list F N (N0 (l,listOf [v].toArray n') (by simp)).1 (by exact δj h0 rfl) (by exact δo h1 rfl) (by simp;exact δk h1 rfl) (fun h' F' N' => ?_))
 refine k _ _ _ T _ (.refl T) (H.made hlo ho nd (ao := .list (List.replicate n.toNat a)) ⟨List.replicate n.toNat v,0,?_,VRs.replicate rv _⟩ (Holds.lt_size N) F' N' _) .of_ref (h _)
 have e : (if ([v].toArray).isEmpty = true then 0 else n.toNat) = n.toNat := by simp
 rw [e]
 have := foldl_one v n.toNat #[]
 simp only [List.nil_append] at this
 congr 3
 refine congrArg (fun a => Data.seq a 0) ?_
 rw [← Array.toList_inj]
 simpa using this
theorem Holds.isList' {l : Addr} {as : List AV} {rest : List (Addr × AO)} {T fr : Led} {s : Shared} (H : Holds c σ T fr s) (pk : Pick (l,.listQ as) σ.hp rest) : ∃ vs,s.heap.IsList l vs.toArray ∧ VRs T as vs := by
 obtain ⟨L,L',⟨o,vs,n,rfl,hc,hd,r⟩,_,N,_⟩ := H.pick pk
 exact ⟨vs,⟨o,(N (l,o) (by simp)).1,hc,n,hd⟩,r⟩
theorem WSub.listQ {value idx} {l : Addr} {as : List AV} {rest : List (Addr × AO)} {i : Int} {av : AV} (pk : Pick (l,.listQ as) σ.hp rest) (hx : IdxOK idx) (h0 : 0 ≤ i) (h1 : i < 1152921504606846976) (hi : as[i.toNat]? = some av) (h : Φ av σ) :
  WSub c value idx (.ref l) (.int i) σ Φ := fun T fr s v w Q H r1 r2 k => by
 cases r1.ref_inv;obtain ⟨u,rfl⟩ := r2.int_inv
 obtain ⟨vs,hl,r⟩ := H.isList' pk
 obtain ⟨x,hx',rx⟩ := r.get hi
 exact ϰj (tail_any hl.typeIs slot_list_getitem.lookup (wpAny_getItem_list hl h0 (by exact δi h1 rfl) (by simpa using hx') (k _ _ σ T _ (.refl T) H rx h)) (hx _ _))
theorem VRs.set {T : Led} {a : AV} {v : Value} (h : VR T a v) : ∀ {l : List AV} {vs : List Value} (n : Nat),VRs T l vs → VRs T (l.set n a) (vs.set n v)
 | [],vs,n,r => by simp only [VRn,VRc] at r;subst r;simpa using VRs.nil
 | x :: l,vs,n,r => by
  simp only [VRn,VRc] at r
  obtain ⟨y,ys,rfl,ry,rr⟩ := r
  cases n with
  | zero => exact .cons h rr
  | succ n => exact .cons ry (VRs.set h n rr)
theorem Holds.quiet {l : Addr} {as : List AV} {rest : List (Addr × AO)} {T fr : Led} {s : Shared} (H : Holds c σ T fr s) (pk : Pick (l,.list as) σ.hp rest) : Holds c { σ with hp := (l,.listQ as) :: rest } T fr s := by
 obtain ⟨L,L',⟨vs,n,rfl,r⟩,ho,N,nd⟩ := H.pick pk
 exact ⟨H.fr_,H.nd,⟨[(l,listOf vs.toArray n)] ++ L',Owns.put (l := [(l,listOf vs.toArray n)]) ⟨_,vs,n,rfl,rfl,rfl,r⟩ ho,by rw [List.append_assoc];exact N,by rw [List.append_assoc];exact nd⟩,H.rest⟩
theorem W.quiet {α β : Type} {R : Led → β → α → Prop} {t : Sem α} {Ψ : β → St → Prop} {l : Addr} {as : List AV} {rest : List (Addr × AO)} (pk : Pick (l,.list as) σ.hp rest) (h : W c R t { σ with hp := (l,.listQ as) :: rest } Ψ) : W c R t σ Ψ :=
 fun T fr s Q H k => h T fr s Q (H.quiet pk) k
theorem WS.setSub {o idx p value pos} {Φ : AFl → St → Prop} (h : WE c value σ fun av σ1 => WE c o σ1 fun ov σ2 => WE c idx σ2 fun iv σ3 => ∃ l as rest i,ov = .ref l ∧ iv = .int i ∧ Pick (l,.listQ as) σ3.hp rest ∧ 0 ≤ i ∧ i < as.length ∧ as.length ≤ 16777216 ∧
   Φ .next { σ3 with hp := (l,.listQ (as.set i.toNat av)) :: rest })
  (hs : swapsWith value (some (.Subscript o idx p)) pos.line c.env = pure false := by rfl) : WS c (.Assign [.Subscript o idx p] value pos) σ Φ := fun T fr s Q H k =>
 S_Assign_Subscript (h T fr s _ H fun av v σ1 T1 s1 e1 H1 r1 h1 => h1 T1 fr s1 _ H1 fun ov vo σ2 T2 s2 e2 H2 r2 h2 => h2 T2 fr s2 _ H2 fun iv vi σ3 T3 s3 e3 H3 r3 h3 => by
  obtain ⟨l,as,rest,i,rfl,rfl,pk,h0,hi,hz,h4⟩ := h3
  cases r2.ref_inv;obtain ⟨u,rfl⟩ := r3.int_inv
  obtain ⟨L,L',⟨ob,vs,n,rfl,hc,hd,r⟩,ho,N,nd⟩ := H3.pick pk
  have hl : s3.heap.IsList l vs.toArray := ⟨ob,(N (l,ob) (by simp)).1,hc,n,hd⟩
  refine ϰj (E := fun _ _ => False) (wpAny_setItem_list hl h0 (by exact ω2 [_] [_] (.lt ξ0 (.n 9223372036854775808)) (.Le ν0 (.n 16777216)) (.lt ξ0 (.c ν0)) hz hi rfl) (by simp [r.length];exact ω1 [_] [_] (.lt ξ0 (.c ν0)) (.lt ξ0 (.c ν0)) hi rfl) fun h' hl' sb => ?_)
  obtain ⟨ob',hob,hc',n',hd'⟩ := hl'
  refine k .next _ _ T3 _ ((e1.trans e2).trans e3) ?_ rfl h4
  have := H3.update (o := .listQ as) (ao' := .listQ (as.set i.toNat av)) (a := l) (d := l) (ob := ob) (ob' := ob') (pre := []) (post := []) ho N nd ?_ (h' := h') (fun b x hb hx => sb.extBut b x hb hx) hob s3.toks
  ·exact this
  ·refine ⟨ob',vs.set i.toNat v,n',rfl,hc',?_,VRs.set (r1.mono (e2.trans e3).sub) _ r⟩
   rw [hd'];simp) hs
theorem WVs.strI {i : Int} (h : 0 ≤ i) (h1 : i < 1000000) (hφ : Φ (.str (Str.ofString (toString i))) σ) : WVs c (.raw (.type "str")) [.int i] σ Φ := fun T fr s v vs Q H r rs k => by
 cases r.raw_inv
 obtain ⟨v,rfl,r1⟩ := rs.one
 obtain ⟨t,rfl⟩ := r1.int_inv
 refine ϰj (E := fun _ _ => False) (PySem.P.str_of_int ?_ (k _ _ σ T _ (.refl T) (H.toks _) .of_str hφ))
 have : i.natAbs < 2 ^ 20 := by exact δq h1 h rfl
 by_cases e : i.natAbs = 0
 ·rw [e];decide
 ·have := (Nat.log2_lt e).mpr this
  exact ω1 [] [_] (.Lt ν0 (.n 1920)) (.Lt ν0 (.n 20)) this rfl
theorem WBin.addS {x y : Str} (hz : x.length + y.length ≤ 16777216) (h : Φ (.str (x ++ y)) σ) : WBin c .Add (.str x) (.str y) σ Φ := fun T fr s v w Q H r1 r2 k => by
 obtain ⟨t,rfl⟩ := r1.str_inv;obtain ⟨u,rfl⟩ := r2.str_inv
 exact ϰj (E := fun _ _ => False) (PyProof.Rows.add_str (fun t' tk => k _ _ σ T _ (.refl T) (H.toks _) .of_str h) hz)
theorem WVs.isBytes {ks : List Int} (h : Φ (.bool true) σ) : WVs c (.raw (.builtin "isinstance")) [.bytes ks,.raw (.type "bytes")] σ Φ := fun T fr s v vs Q H r rs k => by
 cases r.raw_inv
 obtain ⟨v,w,rfl,r1,r2⟩ := rs.two
 obtain ⟨b,t,rfl,hb⟩ := r1.bytes_inv
 cases r2.raw_inv
 exact ϰj (E := fun _ _ => False) (call_isinstance_yes (Tx := "bytes") (by rfl) (by rfl) (by rw [isSubtype_type];kernel_rfl) (k _ _ σ T _ (.refl T) H .of_bool h))
end
end Mine
namespace Mine
section
variable {c : Cx} {σ : St}
theorem Sel.skip {α : Type} (x : α) {l l' : List α} (h : Sel l l') : Sel (x :: l) l' := by
 induction h with
 | nil l => exact .nil _
 | cons pk _ ih => exact .cons (.tail x pk) ih
theorem Sel.drop {α : Type} : ∀ (l r : List α),Sel (l ++ r) r
 | [],r => .refl r
 | x :: l,r => .skip x (Sel.drop l r)
theorem Pick.append {α : Type} {p : α} {l r : List α} (h : Pick p l r) (t : List α) : Pick p (l ++ t) (r ++ t) := by
 induction h with
 | head l => exact .head _
 | tail q _ ih => exact .tail q ih
theorem Sel.append {α : Type} {l l' : List α} (h : Sel l l') (t : List α) : Sel (l ++ t) (l' ++ t) := by
 induction h with
 | nil l => exact Sel.drop _ _
 | cons pk _ ih => exact .cons (pk.append t) ih
theorem Le.pre (l : List (Str × Option AV)) (hp rest : List (Addr × AO)) : Le ⟨l,hp ++ rest⟩ ⟨l,rest⟩ := ⟨.refl _,Sel.drop _ _⟩
theorem Le.gets (l : List (Str × Option AV)) {hp tgt : List (Addr × AO)} (rest : List (Addr × AO)) (h : Sel hp tgt) : Le ⟨l,hp ++ rest⟩ ⟨l,tgt ++ rest⟩ := ⟨.refl _,h.append _⟩
theorem W.post {α β : Type} {R : Led → β → α → Prop} {t : Sem α} {Φ : β → St → Prop} (h : W c R t σ fun b σ' => ∃ σ'',Le σ' σ'' ∧ Φ b σ'') : W c R t σ Φ :=
 fun T fr s Q H k => h T fr s Q H fun b a σ' T' s' e H' r hφ => by
  obtain ⟨σ'',h1,h2⟩ := hφ
  exact k b a σ'' T' s' e (H'.le h1) r h2
theorem W.pre {α β : Type} {R : Led → β → α → Prop} {t : Sem α} {Φ : β → St → Prop} {σ' : St} (h1 : Le σ σ') (h : W c R t σ' Φ) : W c R t σ Φ := fun T fr s Q H k => h T fr s Q (H.le h1) k
theorem WVs.post {f : AV} {as : List AV} {Φ : AV → St → Prop} (h : WVs c f as σ fun b σ' => ∃ σ'',Le σ' σ'' ∧ Φ b σ'') : WVs c f as σ Φ :=
 fun T fr s v vs Q H r rs k => h T fr s v vs Q H r rs fun b a σ' T' s' e H' r hφ => by
  obtain ⟨σ'',h1,h2⟩ := hφ
  exact k b a σ'' T' s' e (H'.le h1) r h2
theorem WVs.pre {f : AV} {as : List AV} {Φ : AV → St → Prop} {σ' : St} (h1 : Le σ σ') (h : WVs c f as σ' Φ) : WVs c f as σ Φ := fun T fr s v vs Q H r rs k => h T fr s v vs Q (H.le h1) r rs k
theorem Enters.post {dp un : Nat} {f : Addr} {as : List AV} {Φ : AV → St → Prop} (h : Enters c dp un f as σ fun b σ' => ∃ σ'',Le σ' σ'' ∧ Φ b σ'') : Enters c dp un f as σ Φ :=
 fun T fr s vs R H r k => h T fr s vs R H r fun b a σ' T' s' e H' r hφ => by
  obtain ⟨σ'',h1,h2⟩ := hφ
  exact k b a σ'' T' s' e (H'.le h1) r h2
theorem Enters.mono {dp un : Nat} {f : Addr} {as : List AV} {Φ Ψ : AV → St → Prop} (h : Enters c dp un f as σ Φ) (hi : ∀ a σ',Φ a σ' → Ψ a σ') : Enters c dp un f as σ Ψ :=
 fun T fr s vs R H r k => h T fr s vs R H r fun b a σ' T' s' e H' r hφ => k b a σ' T' s' e H' r (hi _ _ hφ)
theorem Sel.ofPick {α : Type} {p : α} {l r : List α} (h : Pick p l r) : Sel l r := by
 induction h with
 | head l => exact .skip _ (.refl l)
 | tail q _ ih => exact .cons (.head _) ih
theorem bytesD {l : Addr} {ns : List Int} {as : List AV} {rest : List (Addr × AO)} {Φ : AV → St → Prop} (pk : Pick (l,.list as) σ.hp rest) (e : as = ns.map AV.int) (hr : ∀ n ∈ ns,0 ≤ n ∧ n < 256) (hz : ns.length ≤ 16777216) (h : Φ (.bytes ns) { σ with hp := rest }) :
  WVs c (.raw (.type "bytes")) [.ref l] σ Φ :=
 WVs.post (WVs.bytesL pk e hr hz ⟨{ σ with hp := rest },⟨.refl _,Sel.ofPick pk⟩,h⟩)
theorem ϰT {α : Type} {f : α → AV} {l : Addr} {ns : List α} {rest : List (Addr × AO)} {Φ : AV → St → Prop} (pk : Pick (l,.list (ns.map f)) σ.hp rest) (hz : ns.length ≤ 16777216) (h : Φ (.int ns.length) σ) : WVs c (.raw (.builtin "len")) [.ref l] σ Φ :=
 WVs.lenL pk (by rw [List.length_map];exact hz) (by rw [List.length_map];exact h)
theorem ϱB {α : Type} {f : α → AV} {d : α} {value idx} {l : Addr} {ns : List α} {rest : List (Addr × AO)} {i : Int} {Φ : AV → St → Prop} (pk : Pick (l,.list (ns.map f)) σ.hp rest) (hx : IdxOK idx) (h0 : 0 ≤ i) (h1 : i < ns.length) (hz : ns.length ≤ 16777216) (h : Φ (f (ns.getD i.toNat d)) σ) :
  WSub c value idx (.ref l) (.int i) σ Φ :=
 WSub.list pk hx h0 (by exact ω2 [_] [_] (.lt ξ0 (.n 1152921504606846976)) (.Le ν0 (.n 16777216)) (.lt ξ0 (.c ν0)) hz h1 rfl) (by
  have : i.toNat < ns.length := by exact ω2 [_] [_,_] (.Lt ν0 ν1) (.lt ξ0 (.c ν1)) (.eq (.c ν0) ξ0) h1 (Int.toNat_of_nonneg (δj h0 rfl)) rfl
  rw [List.getElem?_map,List.getElem?_eq_getElem this,List.getD_eq_getElem?_getD,List.getElem?_eq_getElem this];rfl) h
end
end Mine
set_option maxHeartbeats 8000000
namespace Mine
section
local macro_rules | `(tactic| o_head $_) => `(tactic| assumption)
theorem mk0 (_h : PySem.Challenge.rw_no0406_01.row.Holds) : PySem.Challenge.rw_no0406_01.row.Holds := by k_head
end
end Mine
namespace Mine
theorem fillIt (P : Params) : PySem.Challenge.rw_no0406_01 = PySem.Challenge.rw_no0406_01 ∧ mk0.heap_1 P = mk0.heap_1 P := by
 k_fill
 exact ⟨rfl,rfl⟩
theorem ϰaf {K : Frag} {x : Str} {i : Int} {t : Tok} (e : nsIn K mainGlobals x = some (some (.int i t))) (hd : (x == ("__debug__" : Str)) = false := by decide) : GFact K x (.int i) :=
 ⟨hd,.inl ⟨_,e,.of_int⟩,fun _ h => nomatch h⟩
theorem ϱy {K : Frag} {x : Str} {a : Addr} (e : nsIn K mainGlobals x = some (some (.ref a))) (hk : keepIn K (.ref a) = true) (hd : (x == ("__debug__" : Str)) = false := by decide) : GFact K x (.raw (.ref a)) :=
 ⟨hd,.inl ⟨_,e,.of_raw⟩,fun v h => by cases h;exact .inl hk⟩
theorem gf_blt {K : Frag} {x : Str} {v : Value} (e : nsIn K mainGlobals x = some none) (hb : bootBuiltins x = some v) (hv : v.onHeap = false) (hn : x ≠ "__name__" := by decide) (hd : (x == ("__debug__" : Str)) = false := by decide) : GFact K x (.raw v) :=
 ⟨hd,.inr ⟨e,v,hb,hn,.of_raw⟩,fun w h => by cases h;exact .inr hv⟩
theorem gf_MAX_32 (P : Params) : GFact (mk0.heap_1 P) "MAX_32" (.int 4294967295) := ϰaf (t := _) (by k_is)
theorem gf_CHECK_CRC (P : Params) : GFact (mk0.heap_1 P) "CHECK_CRC" (.int 1) := ϰaf (t := _) (by k_is)
theorem gf_CHECK_SUM (P : Params) : GFact (mk0.heap_1 P) "CHECK_SUM" (.int 2) := ϰaf (t := _) (by k_is)
theorem gf_CRC_POLY (P : Params) : GFact (mk0.heap_1 P) "CRC_POLY" (.int 2197175160) := ϰaf (t := _) (by k_is)
theorem gf_MASK_DELTA (P : Params) : GFact (mk0.heap_1 P) "MASK_DELTA" (.int 2726488792) := ϰaf (t := _) (by k_is)
theorem gf_HEADER (P : Params) : GFact (mk0.heap_1 P) "HEADER" (.int 7) := ϰaf (t := _) (by k_is)
theorem gf_MAX_BLOCK (P : Params) : GFact (mk0.heap_1 P) "MAX_BLOCK" (.int 65542) := ϰaf (t := _) (by k_is)
theorem gf_ZERO (P : Params) : GFact (mk0.heap_1 P) "ZERO" (.int 0) := ϰaf (t := _) (by k_is)
theorem gf_FULL (P : Params) : GFact (mk0.heap_1 P) "FULL" (.int 1) := ϰaf (t := _) (by k_is)
theorem gf_FIRST (P : Params) : GFact (mk0.heap_1 P) "FIRST" (.int 2) := ϰaf (t := _) (by k_is)
theorem gf_MIDDLE (P : Params) : GFact (mk0.heap_1 P) "MIDDLE" (.int 3) := ϰaf (t := _) (by k_is)
theorem gf_LAST (P : Params) : GFact (mk0.heap_1 P) "LAST" (.int 4) := ϰaf (t := _) (by k_is)
theorem gf_AT_END (P : Params) : GFact (mk0.heap_1 P) "AT_END" (.int (-1)) := ϰaf (t := _) (by k_is)
theorem gf_BROKEN (P : Params) : GFact (mk0.heap_1 P) "BROKEN" (.int (-2)) := ϰaf (t := _) (by k_is)
theorem gf_put_fixed32 (P : Params) : GFact (mk0.heap_1 P) "put_fixed32" (.raw (.ref 89)) := ϱy (by k_is) (by k_is)
theorem gf_read_fixed32 (P : Params) : GFact (mk0.heap_1 P) "read_fixed32" (.raw (.ref 96)) := ϱy (by k_is) (by k_is)
theorem gf_make_crc_table (P : Params) : GFact (mk0.heap_1 P) "make_crc_table" (.raw (.ref 103)) := ϱy (by k_is) (by k_is)
theorem gf_crc32c (P : Params) : GFact (mk0.heap_1 P) "crc32c" (.raw (.ref 111)) := ϱy (by k_is) (by k_is)
theorem gf_mask (P : Params) : GFact (mk0.heap_1 P) "mask" (.raw (.ref 118)) := ϱy (by k_is) (by k_is)
theorem gf_checksum (P : Params) : GFact (mk0.heap_1 P) "checksum" (.raw (.ref 125)) := ϱy (by k_is) (by k_is)
theorem ϰam (P : Params) : GFact (mk0.heap_1 P) "check_block" (.raw (.ref 132)) := ϱy (by k_is) (by k_is)
theorem ϰav (P : Params) : GFact (mk0.heap_1 P) "check_kind" (.raw (.ref 139)) := ϱy (by k_is) (by k_is)
theorem ϱO (P : Params) : GFact (mk0.heap_1 P) "make_fragment" (.raw (.ref 146)) := ϱy (by k_is) (by k_is)
theorem gf_LogWriter (P : Params) : GFact (mk0.heap_1 P) "LogWriter" (.raw (.ref 184)) := ϱy (by k_is) (by k_is)
theorem gf_LogReader (P : Params) : GFact (mk0.heap_1 P) "LogReader" (.raw (.ref 233)) := ϱy (by k_is) (by k_is)
theorem gf_read_all (P : Params) : GFact (mk0.heap_1 P) "read_all" (.raw (.ref 244)) := ϱy (by k_is) (by k_is)
theorem gf__law_draw (P : Params) : GFact (mk0.heap_1 P) "_law_draw" (.raw (.ref 251)) := ϱy (by k_is) (by k_is)
theorem gf__law_old (P : Params) : GFact (mk0.heap_1 P) "_law_old" (.raw (.ref 256)) := ϱy (by k_is) (by k_is)
theorem gf__law_pieces (P : Params) : GFact (mk0.heap_1 P) "_law_pieces" (.raw (.ref 263)) := ϱy (by k_is) (by k_is)
theorem gf__law_story (P : Params) : GFact (mk0.heap_1 P) "_law_story" (.raw (.ref 270)) := ϱy (by k_is) (by k_is)
theorem gf__law_refused (P : Params) : GFact (mk0.heap_1 P) "_law_refused" (.raw (.ref 277)) := ϱy (by k_is) (by k_is)
theorem gf_BadOption (P : Params) : GFact (mk0.heap_1 P) "BadOption" (.raw (.ref 80)) := ϱy (by k_is) (by k_is)
theorem ϰaD (P : Params) : GFact (mk0.heap_1 P) "len" (.raw (.builtin "len")) := gf_blt (by k_is) (by boot_fast) rfl
theorem gf_range (P : Params) : GFact (mk0.heap_1 P) "range" (.raw (.type "range")) := gf_blt (by k_is) (by boot_fast) rfl
theorem gf_min (P : Params) : GFact (mk0.heap_1 P) "min" (.raw (.builtin "min")) := gf_blt (by k_is) (by boot_fast) rfl
theorem ϰag (P : Params) : GFact (mk0.heap_1 P) "bytes" (.raw (.type "bytes")) := gf_blt (by k_is) (by boot_fast) rfl
theorem gf_bytearray (P : Params) : GFact (mk0.heap_1 P) "bytearray" (.raw (.type "bytearray")) := gf_blt (by k_is) (by kernel_rfl) rfl
theorem gf_isinstance (P : Params) : GFact (mk0.heap_1 P) "isinstance" (.raw (.builtin "isinstance")) := gf_blt (by k_is) (by boot_fast) rfl
theorem gf_sum (P : Params) : GFact (mk0.heap_1 P) "sum" (.raw (.builtin "sum")) := gf_blt (by k_is) (by boot_fast) rfl
theorem gf_str (P : Params) : GFact (mk0.heap_1 P) "str" (.raw (.type "str")) := gf_blt (by k_is) (by boot_fast) rfl
end Mine
namespace Mine
theorem bits64 {a : Int} (h : a.natAbs < 2 ^ 64) : Builtin.Int.intBits a ≤ 64 := by
 unfold Builtin.Int.intBits
 by_cases e : a.natAbs = 0
 ·have : a = 0 := by omega
  subst this;decide
 ·have h2 := (Nat.log2_lt e).mpr h
  have : (a == 0) = false := by simp;omega
  rw [this];simp;exact ω1 [] [_] (.Le ν0 (.n 63)) (.Lt ν0 (.n 64)) h2 rfl
theorem mul64 {a b : Int} (ha : a.natAbs < 2 ^ 64) (hb : b.natAbs < 2 ^ 64) : IntMulOk a b := PyProof.Rows.mulOk_of_bits (bits64 ha) (bits64 hb) (by decide)
theorem ϰS {c : Cx} {σ : St} {a b : Int} {Φ : AV → St → Prop} (ha : a.natAbs < 18446744073709551616) (hb : b.natAbs < 18446744073709551616) (h : Φ (.int (a * b)) σ) : WBin c .Mult (.int a) (.int b) σ Φ := WBin.mul (mul64 ha hb) h
theorem WBin.shlS {c : Cx} {σ : St} {a b : Int} {Φ : AV → St → Prop} (h0 : 0 ≤ b) (h1 : b ≤ 1000000) (h2 : a.natAbs < 18446744073709551616) (h : Φ (.int (a * 2 ^ b.toNat)) σ) : WBin c .LShift (.int a) (.int b) σ Φ := WBin.shl h0 h1 h2 h
end Mine
namespace Mine
noncomputable abbrev Y := List Int
noncomputable def maskF (x : Int) : Int := Builtin.bitAnd (Builtin.bitOr (x / 2 ^ (15 : Int).toNat) (x * 2 ^ (17 : Int).toNat) + 2726488792) 4294967295
noncomputable def le4 (n : Int) : Y := [Builtin.bitAnd n 255,Builtin.bitAnd (n / 2 ^ (8 : Int).toNat) 255,Builtin.bitAnd (n / 2 ^ (16 : Int).toNat) 255,n / 2 ^ (24 : Int).toNat]
noncomputable def rd4 (d : Y) (i : Int) : Int := Builtin.bitOr (Builtin.bitOr (Builtin.bitOr (d.getD i.toNat 0) (d.getD (i + 1).toNat 0 * 2 ^ (8 : Int).toNat)) (d.getD (i + 2).toNat 0 * 2 ^ (16 : Int).toNat)) (d.getD (i + 3).toNat 0 * 2 ^ (24 : Int).toNat)
noncomputable def drawF (ns : List Int) (i : Int) : Int := ns.getD (i % ns.length).toNat 0 + 31 * (i / ns.length)
theorem le4_bytes {n : Int} (h0 : 0 ≤ n) (h1 : n ≤ 4294967295) : ∀ x ∈ le4 n,0 ≤ x ∧ x < 256 := by
 intro x hx
 simp only [le4,List.mem_cons,List.not_mem_nil,or_false,bitAnd_m8] at hx
 have e : (2 : Int) ^ (24 : Int).toNat = 16777216 := by decide
 rw [e] at hx
 rcases hx with rfl | rfl | rfl | rfl
 any_goals exact ⟨Int.emod_nonneg _ (by decide),Int.emod_lt_of_pos _ (by decide)⟩
 exact ⟨Int.ediv_nonneg h0 (by decide),Int.ediv_lt_of_lt_mul (by decide) (δo h1 rfl)⟩
theorem ϱz {l : Y} {a b : Option Int} {n : Nat} (h : l.length ≤ n) : (cut l a b).length ≤ n := by
 unfold cut;exact Nat.le_trans (List.length_take_le' _ _) (by rw [List.length_drop];exact Nat.le_trans (Nat.sub_le _ _) h)
theorem ϱa (n : Int) : (le4 n).length = 4 := rfl
noncomputable def tabIn (half c : Int) : Nat → Y → Y
 | 0,t => t
 | n + 1,t => let t' := tabIn half c n t;t'.set (0 + (n : Int) * (2 * half) + half).toNat (Builtin.bitXor (t'.getD (0 + (n : Int) * (2 * half)).toNat 0) c)
noncomputable def crcTab : Y := [0,274646895,549293790,820201905,1098587580,1361435347,1640403810,1905808397,2197175160,2460548119,2722870694,2987750089,3280807620,3553878443,3811616794,4084100981]
noncomputable def tbl : Nat → Y
 | 0 => [0,0,0,0,0,0,0,0,0,0,0,0,0,0,0,0]
 | 1 => [0,0,0,0,0,0,0,0,2197175160,0,0,0,0,0,0,0]
 | 2 => [0,0,0,0,1098587580,0,0,0,2197175160,0,0,0,3280807620,0,0,0]
 | 3 => [0,0,549293790,0,1098587580,0,1640403810,0,2197175160,0,2722870694,0,3280807620,0,3811616794,0]
 | _ => crcTab
noncomputable def tc : Nat → Int
 | 0 => 1
 | 1 => 2197175160
 | 2 => 1098587580
 | 3 => 549293790
 | _ => 274646895
noncomputable def th : Nat → Int
 | 0 => 8
 | 1 => 4
 | 2 => 2
 | 3 => 1
 | _ => 0
noncomputable def crcStep (c o : Int) : Int :=
 let c1 := Builtin.bitXor c o
 let c2 := Builtin.bitXor (c1 / 2 ^ (4 : Int).toNat) (crcTab.getD (Builtin.bitAnd c1 15).toNat 0)
 Builtin.bitXor (c2 / 2 ^ (4 : Int).toNat) (crcTab.getD (Builtin.bitAnd c2 15).toNat 0)
noncomputable def crcF (d : Y) : Int := Builtin.bitXor (d.foldl crcStep 4294967295) 4294967295
noncomputable def ckF (check : Int) (d : Y) : Int := if check = 1 then maskF (crcF d) else Builtin.bitAnd (d.sum * 251 + d.length * 65537 + 7) 4294967295
noncomputable def fragY (kind : Int) (d : Y) (check : Int) : Y := le4 (ckF check (kind :: d)) ++ [(d.length : Int) % 256,(d.length : Int) / 256] ++ (kind :: d)
theorem ϱE (half c : Int) (t : Y) : ∀ n,(tabIn half c n t).length = t.length
 | 0 => rfl
 | n + 1 => by simp only [tabIn,List.length_set];exact ϱE half c t n
section
variable {c : Cx} {σ : St}
theorem ϱo {α : Type} {f : α → AV} {d : α} {value idx} {l : Addr} {ns : List α} {rest : List (Addr × AO)} {i : Int} {Φ : AV → St → Prop} (pk : Pick (l,.listQ (ns.map f)) σ.hp rest) (hx : IdxOK idx) (h0 : 0 ≤ i) (h1 : i < ns.length) (hz : ns.length ≤ 16777216) (h : Φ (f (ns.getD i.toNat d)) σ) :
  WSub c value idx (.ref l) (.int i) σ Φ :=
 WSub.listQ pk hx h0 (by exact ω2 [_] [_] (.lt ξ0 (.n 1152921504606846976)) (.Le ν0 (.n 16777216)) (.lt ξ0 (.c ν0)) hz h1 rfl) (by
  have : i.toNat < ns.length := by exact ω2 [_] [_,_] (.Lt ν0 ν1) (.lt ξ0 (.c ν1)) (.eq (.c ν0) ξ0) h1 (Int.toNat_of_nonneg (δj h0 rfl)) rfl
  rw [List.getElem?_map,List.getElem?_eq_getElem this,List.getD_eq_getElem?_getD,List.getElem?_eq_getElem this];rfl) h
theorem WS.setInt {o idx p value pos} {Φ : AFl → St → Prop} (h : WE c value σ fun av σ1 => WE c o σ1 fun ov σ2 => WE c idx σ2 fun iv σ3 => ∃ (l : Addr) (ns : List Int) (rest : List (Addr × AO)) (i v : Int),av = .int v ∧ ov = .ref l ∧ iv = .int i ∧ Pick (l,.listQ (ns.map AV.int)) σ3.hp rest ∧ 0 ≤ i ∧ i < ns.length ∧ ns.length ≤ 16777216 ∧
   Φ .next ⟨σ3.loc,(l,.listQ ((ns.set i.toNat v).map AV.int)) :: rest⟩)
  (hs : swapsWith value (some (.Subscript o idx p)) pos.line c.env = pure false := by rfl) : WS c (.Assign [.Subscript o idx p] value pos) σ Φ :=
 WS.setSub (W.mono h fun av σ1 h1 => W.mono h1 fun ov σ2 h2 => W.mono h2 fun iv σ3 h3 => by
  obtain ⟨l,ns,rest,i,v,rfl,rfl,rfl,pk,h0,h1,hz,h4⟩ := h3
  refine ⟨l,ns.map AV.int,rest,i,rfl,rfl,pk,h0,by simpa using h1,by simpa using hz,?_⟩
  rw [← List.map_set];exact h4) hs
end
end Mine
namespace Mine
section
variable {c : Cx} {σ : St}
theorem tupS {l : List AV} {xs : List Str} {lo lo' : List (Str × Option AV)} {P : List (Str × Option AV) → Prop} (s : SetLs xs l lo lo') (h : P lo') : ∃ l' lo',(AV.tup l) = .tup l' ∧ SetLs xs l' lo lo' ∧ P lo' := ⟨_,_,rfl,s,h⟩
theorem ϰZ {P : Prop} (h : P) : (AV.none) = .none ∧ P := ⟨rfl,h⟩
theorem ϰA {y py} {name : Str} {apos pos args} {x C f : Addr} {fs : List (Str × AV)} {rest : List (Addr × AO)} {F : List Str} {M : List (Str × Addr)} {Φ : AV → St → Prop} (hc : ClsOK c.K C F M) (g : GetL y (.ref x) σ.loc)
  (pk : Pick (x,.inst C fs) σ.hp rest) (hm : (name,f) ∈ M) (hn : name ∉ fs.map (·.1)) (h : WEs c pos args σ fun as σ1 => Enters c c.dp c.un f (.ref x :: as) σ1 Φ) (hp : plainArgs c pos args)
  (he : eval (.Call (.Attribute (.Name y py) name apos) args [] pos) c.env = (do
   let ov ← eval (.Name y py) c.env
   standAt apos.atName
   let (f,first) ← holding [ov] (getMethod ov name (do return (← importBound (.Name y py) c.env).getD true))
   callWith pos f first (backTo pos (starEach args c.env)) [])) : WE c (.Call (.Attribute (.Name y py) name apos) args [] pos) σ Φ :=
 WE.meth hc g pk hm hn (W.mono h fun as σ1 h1 => ϰw h1) hp (he := he)
theorem ϱe {y py} {name : Str} {value pa pos} {C : Addr} {F : List Str} {M : List (Str × Addr)} {Φ : AFl → St → Prop} (hc : ClsOK c.K C F M) (hf : name ∈ F)
  (h : WE c value σ fun av σ1 => (∃ x fs fs' rest,GetL y (.ref x) σ1.loc ∧ Pick (x,.inst C fs) σ1.hp rest ∧ SetF name av fs fs' ∧ fs.length ≤ 900 ∧ Φ .next ⟨σ1.loc,(x,.inst C fs') :: rest⟩))
  (hs : swapsWith value (some (.Attribute (.Name y py) name pa)) pos.line c.env = pure false) : WS c (.Assign [.Attribute (.Name y py) name pa] value pos) σ Φ := WS.setAttr hc hf h hs
theorem ϰaE {C : Addr} {y name : Str} {av : AV} {lo : List (Str × Option AV)} {hp : List (Addr × AO)} {P : Addr → List (Str × AV) → List (Str × AV) → List (Addr × AO) → Prop} {x fs fs' rest} (g : GetL y (.ref x) lo) (pk : Pick (x,.inst C fs) hp rest) (gf : SetF name av fs fs') (hz : fs.length ≤ 900) (h : P x fs fs' rest) :
  ∃ x fs fs' rest,GetL y (.ref x) lo ∧ Pick (x,.inst C fs) hp rest ∧ SetF name av fs fs' ∧ fs.length ≤ 900 ∧ P x fs fs' rest := ⟨x,fs,fs',rest,g,pk,gf,hz,h⟩
theorem ϰJ {y py} {name : Str} {value pa pos} {C : Addr} {F : List Str} {M : List (Str × Addr)} {Φ : AFl → St → Prop} (hc : ClsOK c.K C F M) (hf : name ∈ F)
  (h : WE c value σ fun av σ1 => ∃ x fs rest,GetL y (.ref x) σ1.loc ∧ Pick (x,.inst C fs) σ1.hp rest ∧ name ∉ fs.map (·.1) ∧ fs.length ≤ 900 ∧ Φ .next ⟨σ1.loc,(x,.inst C (fs ++ [(name,av)])) :: rest⟩)
  (hs : swapsWith value (some (.Attribute (.Name y py) name pa)) pos.line c.env = pure false) : WS c (.Assign [.Attribute (.Name y py) name pa] value pos) σ Φ := WS.newAttr hc hf h hs
theorem ϱI {C : Addr} {y name : Str} {lo : List (Str × Option AV)} {hp : List (Addr × AO)} {P : Addr → List (Str × AV) → List (Addr × AO) → Prop} {x fs rest} (g : GetL y (.ref x) lo) (pk : Pick (x,.inst C fs) hp rest) (gf : name ∉ fs.map (·.1)) (hz : fs.length ≤ 900) (h : P x fs rest) :
  ∃ x fs rest,GetL y (.ref x) lo ∧ Pick (x,.inst C fs) hp rest ∧ name ∉ fs.map (·.1) ∧ fs.length ≤ 900 ∧ P x fs rest := ⟨x,fs,rest,g,pk,gf,hz,h⟩
theorem ϰac {y py} {name : Str} {op value pa pos} {x C : Addr} {fs : List (Str × AV)} {rest : List (Addr × AO)} {F : List Str} {M : List (Str × Addr)} {av : AV} {Φ : AFl → St → Prop} (hc : ClsOK c.K C F M) (hf : name ∈ F) (g : GetL y (.ref x) σ.loc)
  (pk : Pick (x,.inst C fs) σ.hp rest) (gf : GetF name av fs) (hr : av.isRaw = false)
  (h : WE c value σ fun b σ1 => WIn c op av b σ1 fun n σ2 => ∃ fs2 fs' rest,Pick (x,.inst C fs2) σ2.hp rest ∧ SetF name n fs2 fs' ∧ fs2.length ≤ 900 ∧ Φ .next ⟨σ2.loc,(x,.inst C fs') :: rest⟩) :
  WS c (.AugAssign (.Attribute (.Name y py) name pa) op value pos) σ Φ := WS.augAttr hc hf g pk gf hr h
theorem augAK {C : Addr} {name : Str} {n : AV} {hp : List (Addr × AO)} {x : Addr} {P : List (Str × AV) → List (Str × AV) → List (Addr × AO) → Prop} {fs fs' rest} (pk : Pick (x,.inst C fs) hp rest) (gf : SetF name n fs fs') (hz : fs.length ≤ 900) (h : P fs fs' rest) :
  ∃ fs fs' rest,Pick (x,.inst C fs) hp rest ∧ SetF name n fs fs' ∧ fs.length ≤ 900 ∧ P fs fs' rest := ⟨fs,fs',rest,pk,gf,hz,h⟩
theorem appK1 {l : Addr} {its : List AV} {rest hp : List (Addr × AO)} {P : Addr → List AV → List (Addr × AO) → Prop} (pk : Pick (l,.list its) hp rest) (h : P l its rest) : ∃ l' its rest,(AV.ref l) = .ref l' ∧ Pick (l',.list its) hp rest ∧ P l' its rest := ⟨l,its,rest,rfl,pk,h⟩
theorem appK2 {l : Addr} {its : List AV} {rest hp : List (Addr × AO)} {P : List AV → List (Addr × AO) → Prop} (pk : Pick (l,.list its) hp rest) (hz : its.length ≤ 16777216) (h : P its rest) :
  ∃ its rest,Pick (l,.list its) hp rest ∧ its.length ≤ 16777216 ∧ P its rest := ⟨its,rest,pk,hz,h⟩
theorem setIK {o i : AV} {v : AV} {hp : List (Addr × AO)} {P : Addr → Y → List (Addr × AO) → Int → Int → Prop} {l : Addr} {ns : List Int} {rest : List (Addr × AO)} {j w : Int} (e1 : v = .int w) (e2 : o = .ref l) (e3 : i = .int j) (pk : Pick (l,.listQ (ns.map AV.int)) hp rest) (h0 : 0 ≤ j) (h1 : j < ns.length) (hz : ns.length ≤ 16777216) (h : P l ns rest j w) :
  ∃ l ns rest j w,v = .int w ∧ o = .ref l ∧ i = .int j ∧ Pick (l,.listQ (ns.map AV.int)) hp rest ∧ 0 ≤ j ∧ j < ns.length ∧ ns.length ≤ 16777216 ∧ P l ns rest j w := ⟨l,ns,rest,j,w,e1,e2,e3,pk,h0,h1,hz,h⟩
theorem bInts_range {b : Array UInt8} {ks : Y} (h : KBw.bInts b = ks) : ∀ x ∈ ks,0 ≤ x ∧ x < 256 := by
 subst h;intro x hx;exact KBw.ints_in hx
noncomputable abbrev Byt (d : Y) : Prop := ∀ x ∈ d,0 ≤ x ∧ x < 256
theorem VRs.byt {T : Led} {d : Y} : ∀ {as : List AV} {vs : List Value},VRs T as vs → AV.bytes d ∈ as → Byt d
 | [],_,_,h => nomatch h
 | a :: as,vs,r,h => by
  simp only [VRn,VRc] at r
  obtain ⟨v,r',rfl,hv,hr⟩ := r
  rcases List.mem_cons.mp h with e | h
  ·subst e
   obtain ⟨b,t,_,hb⟩ := hv.bytes_inv
   exact bInts_range hb
  ·exact VRs.byt hr h
theorem Enters.byt {dp un : Nat} {f : Addr} {as : List AV} {Φ : AV → St → Prop} (d : Y) (hm : AV.bytes d ∈ as) (h : Byt d → Enters c dp un f as σ Φ) : Enters c dp un f as σ Φ :=
 fun T fr s vs R H r k => h (r.byt hm) T fr s vs R H r k
theorem ϱw {o apos pos} {e : Expr} {Φ : AV → St → Prop} (h : WE c o σ fun a σ1 => ∃ l its rest,a = .ref l ∧ Pick (l,.list its) σ1.hp rest ∧ WE c e σ1 fun v σ2 => ∃ its rest,Pick (l,.list its) σ2.hp rest ∧ its.length ≤ 16777216 ∧ Φ .none ⟨σ2.loc,(l,.list (its ++ [v])) :: rest⟩)
  (hp : plainArgs c pos [e]) (hse : starEach [e] c.env = (false,eval e c.env) :: starEach [] c.env)
  (he : eval (.Call (.Attribute o "append" apos) [e] [] pos) c.env = (do
   let ov ← eval o c.env
   standAt apos.atName
   let (f,first) ← holding [ov] (getMethod ov "append" (do return (← importBound o c.env).getD true))
   callWith pos f first (backTo pos (starEach [e] c.env)) [])) : WE c (.Call (.Attribute o "append" apos) [e] [] pos) σ Φ := WE.append h _ hp hse he
theorem WE.extC {y py apos pos} {e : Expr} {a : Addr} {Φ : AV → St → Prop} {ks0 : List Int} {rest0 : List (Addr × AO)} (hb : c.cb = true) (g : GetL y (.ref a) σ.loc) (pk0 : Pick (a,.bytearray ks0) σ.hp rest0)
  (h : WE c e σ fun v σ2 => ∃ ls ks rest,v = .bytes ls ∧ Pick (a,.bytearray ks) σ2.hp rest ∧ ks.length + ls.length ≤ 16777216 ∧ Φ .none ⟨σ2.loc,(a,.bytearray (ks ++ ls)) :: rest⟩)
  (hp : plainArgs c pos [e]) (hse : starEach [e] c.env = (false,eval e c.env) :: starEach [] c.env)
  (he : eval (.Call (.Attribute (.Name y py) "extend" apos) [e] [] pos) c.env = (do
   let ov ← eval (.Name y py) c.env
   standAt apos.atName
   let (f,first) ← holding [ov] (getMethod ov "extend" (do return (← importBound (.Name y py) c.env).getD true))
   callWith pos f first (backTo pos (starEach [e] c.env)) [])) : WE c (.Call (.Attribute (.Name y py) "extend" apos) [e] [] pos) σ Φ :=
 WE.extend hb g pk0 (W.mono h fun v σ2 ⟨ls,ks,rest,q⟩ => ⟨ks,ls,rest,q⟩) _ hp hse he
theorem extK {a : Addr} {ls ks : Y} {rest hp : List (Addr × AO)} {P : Y → Y → List (Addr × AO) → Prop} (pk : Pick (a,.bytearray ks) hp rest) (hz : ks.length + ls.length ≤ 16777216) (h : P ls ks rest) :
  ∃ ls' ks rest,(AV.bytes ls) = .bytes ls' ∧ Pick (a,.bytearray ks) hp rest ∧ ks.length + ls'.length ≤ 16777216 ∧ P ls' ks rest := ⟨ls,ks,rest,rfl,pk,hz,h⟩
theorem WE.negC {i : Int} {k p pos} {Φ : AV → St → Prop} (h : Φ (.int (-i)) σ) : WE c (.UnaryOp .USub (.Constant (.int i) k p) pos) σ Φ := WE.neg (i := i) (ϰi ⟨rfl,h⟩)
theorem bytes1 {l : Addr} {a : Int} {rest : List (Addr × AO)} {Φ : AV → St → Prop} (pk : Pick (l,.list [.int a]) σ.hp rest) (h0 : 0 ≤ a) (h1 : a < 256) (h : Φ (.bytes [a]) ⟨σ.loc,rest⟩) : WVs c (.raw (.type "bytes")) [.ref l] σ Φ :=
 bytesD (ns := [a]) pk rfl (fun n hn => by have := List.mem_singleton.mp hn;exact ⟨κ2 [_,_] [] (.le (.n 0) ξ0) (.eq ξ0 ξ1) (.le (.n 0) ξ1) [1,-1,1] this h0 rfl,ω2 [_,_] [] (.lt ξ0 (.n 256)) (.eq ξ0 ξ1) (.lt ξ1 (.n 256)) this h1 rfl⟩) (by simp) h
theorem bytes2 {l : Addr} {a b : Int} {rest : List (Addr × AO)} {Φ : AV → St → Prop} (pk : Pick (l,.list [.int a,.int b]) σ.hp rest) (h0 : 0 ≤ a) (h1 : a < 256) (h2 : 0 ≤ b) (h3 : b < 256) (h : Φ (.bytes [a,b]) ⟨σ.loc,rest⟩) : WVs c (.raw (.type "bytes")) [.ref l] σ Φ :=
 bytesD (ns := [a,b]) pk rfl (fun n hn => by simp only [List.mem_cons,List.not_mem_nil,or_false] at hn;omega) (by simp) h
theorem bytesM {l : Addr} {ns : Y} {rest : List (Addr × AO)} {Φ : AV → St → Prop} (pk : Pick (l,.list (ns.map AV.int)) σ.hp rest) (hr : ∀ n ∈ ns,0 ≤ n ∧ n < 256) (hz : ns.length ≤ 16777216) (h : Φ (.bytes ns) ⟨σ.loc,rest⟩) : WVs c (.raw (.type "bytes")) [.ref l] σ Φ :=
 bytesD (ns := ns) pk rfl hr hz h
theorem Enters.ofB {foot rest : List (Addr × AO)} {f : Addr} {oc : Value} {od : Option Addr} {osl : Array (Option Value)} {name qual : Str} {params : Arguments} {body : List Stmt} {scope : Scope} {dV kV doc pm cdv ct : Value} {an : Option Addr}
  {as : List AV} {args : List (Str × AV)} {more : List Str} {G : List (Str × AV)} {dp un : Nat} {Φ : AV → St → Prop}
  (ho : c.K.lookup f = some ⟨oc,od,.func (fnOf name qual params body scope dV kV doc pm an cdv ct),osl⟩) (hcd : codeIn c.K cdv qual = true) (hroom : dp < recursionLimit)
  (hb : ∀ T s vs,c.K.In s.heap → VRs T as vs → ∃ binds,BindsTo s (fnOf name qual params body scope dV kV doc pm an cdv ct) ⟨vs,[]⟩ binds ∧ BR T args binds)
  (hnd : (args.map (·.1) ++ more).Nodup) (hloc : ((args.map (·.1) ++ more).all fun x => scope.names.lookup x == some .local && !(x == ("__debug__" : Str))) = true)
  (hcell : (scope.names.all fun x => x.2 != .cell) = true) (hco : scope.isCoroutine = false) (hgen : scope.isGenerator = false) (hk : scope.kind = .function)
  (hG : GAll c.K G) (hGs : (G.all fun p => scope.names.lookup p.1 == some .globalImplicit) = true)
  (hp : σ.hp.Perm (foot ++ rest))
  (hbody : ∀ c' : Cx,Inner c c' dp un scope (· = []) G → WSs c' body ⟨args.map (fun p => (p.1,some p.2)) ++ more.map (fun x => (x,none)),foot⟩ (retK fun av hp' => Φ av ⟨σ.loc,hp' ++ rest⟩)) : Enters c dp un f as σ Φ := fun T fr s vs R H r k => by
 refine enter (args := args) (more := more) hp ho hcd hroom (fun T fr s vs H r => hb T s vs (by obtain ⟨m,F,_⟩ := H.fr_;exact Frag.In.keeps c.X F.keep) r) hnd (fun x hx => ?_) (fun x hx => ?_) hco hgen hk hG (fun p hp => ?_) hbody H r
  (fun av v hp' T' s' e H' rv hφ => k av v _ T' s' e H' rv hφ)
 ·have := List.all_eq_true.mp hloc x hx
  simp only [Bool.and_eq_true,beq_iff_eq,Bool.not_eq_true'] at this
  exact this
 ·have := List.all_eq_true.mp hcell x hx
  simpa using this
 ·have := List.all_eq_true.mp hGs p hp
  simpa using this
end
end Mine
namespace Mine
theorem qD {p : Prop} {i : Decidable p} {P Q : Prop} (h1 : p → P) (h2 : ¬ p → Q) : (@decide p i = true → P) ∧ (@decide p i = false → Q) := ⟨fun h => h1 (of_decide_eq_true h),fun h => h2 (of_decide_eq_false h)⟩
theorem qD' {p : Prop} {i : Decidable p} {P Q : Prop} (h1 : ¬ p → P) (h2 : p → Q) : (@decide p i = false → P) ∧ (@decide p i = true → Q) := (qD h2 h1).symm
theorem qN {b : Bool} {P Q : Prop} (h1 : b = false → P) (h2 : b = true → Q) : ((!b) = true → P) ∧ ((!b) = false → Q) := ⟨fun h => h1 ((Bool.not_eq_eq_eq_not (a := b) (b := true)).mp h),fun h => h2 ((Bool.not_eq_eq_eq_not (a := b) (b := false)).mp h)⟩
theorem qN' {b : Bool} {P Q : Prop} (h1 : b = true → P) (h2 : b = false → Q) : ((!b) = false → P) ∧ ((!b) = true → Q) := (qN h2 h1).symm
theorem qE {p : Prop} {i : Decidable p} {P Q : Prop} (h1 : ¬ p → P) (h2 : p → Q) : ((!(@decide p i)) = true → P) ∧ ((!(@decide p i)) = false → Q) := qN (fun h => h1 (of_decide_eq_false h)) (fun h => h2 (of_decide_eq_true h))
theorem qE' {p : Prop} {i : Decidable p} {P Q : Prop} (h1 : p → P) (h2 : ¬ p → Q) : ((!(@decide p i)) = false → P) ∧ ((!(@decide p i)) = true → Q) := (qE h2 h1).symm
section
variable {x : Str} {av : AV} {o : Option AV} {u : AV}
variable {a0 a1 a2 a3 a4 a5 a6 a7 a8 a9 a10 a11 a12 a13 a14 a15 a16 a17 a18 a19 a20 a21 a22 a23 a24 a25 : Str × Option AV} {l : List (Str × Option AV)}
variable {b0 b1 b2 b3 b4 b5 b6 b7 b8 b9 : Str × AV} {r : List (Str × AV)}
variable {α : Type} {y : α} {c0 c1 c2 c3 c4 c5 c6 c7 c8 c9 c10 c11 c12 : α} {t : List α}
theorem G0 : GetL x av ((x,some av)::l) := .head _
theorem G1 : GetL x av (a0::(x,some av)::l) := .tail _ G0
theorem G2 : GetL x av (a0::a1::(x,some av)::l) := .tail _ G1
theorem G3 : GetL x av (a0::a1::a2::(x,some av)::l) := .tail _ G2
theorem G4 : GetL x av (a0::a1::a2::a3::(x,some av)::l) := .tail _ G3
theorem G5 : GetL x av (a0::a1::a2::a3::a4::(x,some av)::l) := .tail _ G4
theorem G6 : GetL x av (a0::a1::a2::a3::a4::a5::(x,some av)::l) := .tail _ G5
theorem G7 : GetL x av (a0::a1::a2::a3::a4::a5::a6::(x,some av)::l) := .tail _ G6
theorem G8 : GetL x av (a0::a1::a2::a3::a4::a5::a6::a7::(x,some av)::l) := .tail _ G7
theorem G9 : GetL x av (a0::a1::a2::a3::a4::a5::a6::a7::a8::(x,some av)::l) := .tail _ G8
theorem G10 : GetL x av (a0::a1::a2::a3::a4::a5::a6::a7::a8::a9::(x,some av)::l) := .tail _ G9
theorem G11 : GetL x av (a0::a1::a2::a3::a4::a5::a6::a7::a8::a9::a10::(x,some av)::l) := .tail _ G10
theorem G12 : GetL x av (a0::a1::a2::a3::a4::a5::a6::a7::a8::a9::a10::a11::(x,some av)::l) := .tail _ G11
theorem G13 : GetL x av (a0::a1::a2::a3::a4::a5::a6::a7::a8::a9::a10::a11::a12::(x,some av)::l) := .tail _ G12
theorem G14 : GetL x av (a0::a1::a2::a3::a4::a5::a6::a7::a8::a9::a10::a11::a12::a13::(x,some av)::l) := .tail _ G13
theorem G15 : GetL x av (a0::a1::a2::a3::a4::a5::a6::a7::a8::a9::a10::a11::a12::a13::a14::(x,some av)::l) := .tail _ G14
theorem G16 : GetL x av (a0::a1::a2::a3::a4::a5::a6::a7::a8::a9::a10::a11::a12::a13::a14::a15::(x,some av)::l) := .tail _ G15
theorem G17 : GetL x av (a0::a1::a2::a3::a4::a5::a6::a7::a8::a9::a10::a11::a12::a13::a14::a15::a16::(x,some av)::l) := .tail _ G16
theorem G18 : GetL x av (a0::a1::a2::a3::a4::a5::a6::a7::a8::a9::a10::a11::a12::a13::a14::a15::a16::a17::(x,some av)::l) := .tail _ G17
theorem G19 : GetL x av (a0::a1::a2::a3::a4::a5::a6::a7::a8::a9::a10::a11::a12::a13::a14::a15::a16::a17::a18::(x,some av)::l) := .tail _ G18
theorem G20 : GetL x av (a0::a1::a2::a3::a4::a5::a6::a7::a8::a9::a10::a11::a12::a13::a14::a15::a16::a17::a18::a19::(x,some av)::l) := .tail _ G19
theorem G21 : GetL x av (a0::a1::a2::a3::a4::a5::a6::a7::a8::a9::a10::a11::a12::a13::a14::a15::a16::a17::a18::a19::a20::(x,some av)::l) := .tail _ G20
theorem G22 : GetL x av (a0::a1::a2::a3::a4::a5::a6::a7::a8::a9::a10::a11::a12::a13::a14::a15::a16::a17::a18::a19::a20::a21::(x,some av)::l) := .tail _ G21
theorem G23 : GetL x av (a0::a1::a2::a3::a4::a5::a6::a7::a8::a9::a10::a11::a12::a13::a14::a15::a16::a17::a18::a19::a20::a21::a22::(x,some av)::l) := .tail _ G22
theorem G24 : GetL x av (a0::a1::a2::a3::a4::a5::a6::a7::a8::a9::a10::a11::a12::a13::a14::a15::a16::a17::a18::a19::a20::a21::a22::a23::(x,some av)::l) := .tail _ G23
theorem G25 : GetL x av (a0::a1::a2::a3::a4::a5::a6::a7::a8::a9::a10::a11::a12::a13::a14::a15::a16::a17::a18::a19::a20::a21::a22::a23::a24::(x,some av)::l) := .tail _ G24
theorem G26 : GetL x av (a0::a1::a2::a3::a4::a5::a6::a7::a8::a9::a10::a11::a12::a13::a14::a15::a16::a17::a18::a19::a20::a21::a22::a23::a24::a25::(x,some av)::l) := .tail _ G25
theorem S0 : SetL x av ((x,o)::l) ((x,some av)::l) := .head _ _
theorem S1 : SetL x av (a0::(x,o)::l) (a0::(x,some av)::l) := .tail _ S0
theorem S2 : SetL x av (a0::a1::(x,o)::l) (a0::a1::(x,some av)::l) := .tail _ S1
theorem S3 : SetL x av (a0::a1::a2::(x,o)::l) (a0::a1::a2::(x,some av)::l) := .tail _ S2
theorem S4 : SetL x av (a0::a1::a2::a3::(x,o)::l) (a0::a1::a2::a3::(x,some av)::l) := .tail _ S3
theorem S5 : SetL x av (a0::a1::a2::a3::a4::(x,o)::l) (a0::a1::a2::a3::a4::(x,some av)::l) := .tail _ S4
theorem S6 : SetL x av (a0::a1::a2::a3::a4::a5::(x,o)::l) (a0::a1::a2::a3::a4::a5::(x,some av)::l) := .tail _ S5
theorem S7 : SetL x av (a0::a1::a2::a3::a4::a5::a6::(x,o)::l) (a0::a1::a2::a3::a4::a5::a6::(x,some av)::l) := .tail _ S6
theorem S8 : SetL x av (a0::a1::a2::a3::a4::a5::a6::a7::(x,o)::l) (a0::a1::a2::a3::a4::a5::a6::a7::(x,some av)::l) := .tail _ S7
theorem S9 : SetL x av (a0::a1::a2::a3::a4::a5::a6::a7::a8::(x,o)::l) (a0::a1::a2::a3::a4::a5::a6::a7::a8::(x,some av)::l) := .tail _ S8
theorem S10 : SetL x av (a0::a1::a2::a3::a4::a5::a6::a7::a8::a9::(x,o)::l) (a0::a1::a2::a3::a4::a5::a6::a7::a8::a9::(x,some av)::l) := .tail _ S9
theorem S11 : SetL x av (a0::a1::a2::a3::a4::a5::a6::a7::a8::a9::a10::(x,o)::l) (a0::a1::a2::a3::a4::a5::a6::a7::a8::a9::a10::(x,some av)::l) := .tail _ S10
theorem S12 : SetL x av (a0::a1::a2::a3::a4::a5::a6::a7::a8::a9::a10::a11::(x,o)::l) (a0::a1::a2::a3::a4::a5::a6::a7::a8::a9::a10::a11::(x,some av)::l) := .tail _ S11
theorem S13 : SetL x av (a0::a1::a2::a3::a4::a5::a6::a7::a8::a9::a10::a11::a12::(x,o)::l) (a0::a1::a2::a3::a4::a5::a6::a7::a8::a9::a10::a11::a12::(x,some av)::l) := .tail _ S12
theorem S14 : SetL x av (a0::a1::a2::a3::a4::a5::a6::a7::a8::a9::a10::a11::a12::a13::(x,o)::l) (a0::a1::a2::a3::a4::a5::a6::a7::a8::a9::a10::a11::a12::a13::(x,some av)::l) := .tail _ S13
theorem S15 : SetL x av (a0::a1::a2::a3::a4::a5::a6::a7::a8::a9::a10::a11::a12::a13::a14::(x,o)::l) (a0::a1::a2::a3::a4::a5::a6::a7::a8::a9::a10::a11::a12::a13::a14::(x,some av)::l) := .tail _ S14
theorem S16 : SetL x av (a0::a1::a2::a3::a4::a5::a6::a7::a8::a9::a10::a11::a12::a13::a14::a15::(x,o)::l) (a0::a1::a2::a3::a4::a5::a6::a7::a8::a9::a10::a11::a12::a13::a14::a15::(x,some av)::l) := .tail _ S15
theorem S17 : SetL x av (a0::a1::a2::a3::a4::a5::a6::a7::a8::a9::a10::a11::a12::a13::a14::a15::a16::(x,o)::l) (a0::a1::a2::a3::a4::a5::a6::a7::a8::a9::a10::a11::a12::a13::a14::a15::a16::(x,some av)::l) := .tail _ S16
theorem S18 : SetL x av (a0::a1::a2::a3::a4::a5::a6::a7::a8::a9::a10::a11::a12::a13::a14::a15::a16::a17::(x,o)::l) (a0::a1::a2::a3::a4::a5::a6::a7::a8::a9::a10::a11::a12::a13::a14::a15::a16::a17::(x,some av)::l) := .tail _ S17
theorem S19 : SetL x av (a0::a1::a2::a3::a4::a5::a6::a7::a8::a9::a10::a11::a12::a13::a14::a15::a16::a17::a18::(x,o)::l) (a0::a1::a2::a3::a4::a5::a6::a7::a8::a9::a10::a11::a12::a13::a14::a15::a16::a17::a18::(x,some av)::l) := .tail _ S18
theorem S20 : SetL x av (a0::a1::a2::a3::a4::a5::a6::a7::a8::a9::a10::a11::a12::a13::a14::a15::a16::a17::a18::a19::(x,o)::l) (a0::a1::a2::a3::a4::a5::a6::a7::a8::a9::a10::a11::a12::a13::a14::a15::a16::a17::a18::a19::(x,some av)::l) := .tail _ S19
theorem S21 : SetL x av (a0::a1::a2::a3::a4::a5::a6::a7::a8::a9::a10::a11::a12::a13::a14::a15::a16::a17::a18::a19::a20::(x,o)::l) (a0::a1::a2::a3::a4::a5::a6::a7::a8::a9::a10::a11::a12::a13::a14::a15::a16::a17::a18::a19::a20::(x,some av)::l) := .tail _ S20
theorem S22 : SetL x av (a0::a1::a2::a3::a4::a5::a6::a7::a8::a9::a10::a11::a12::a13::a14::a15::a16::a17::a18::a19::a20::a21::(x,o)::l) (a0::a1::a2::a3::a4::a5::a6::a7::a8::a9::a10::a11::a12::a13::a14::a15::a16::a17::a18::a19::a20::a21::(x,some av)::l) := .tail _ S21
theorem S23 : SetL x av (a0::a1::a2::a3::a4::a5::a6::a7::a8::a9::a10::a11::a12::a13::a14::a15::a16::a17::a18::a19::a20::a21::a22::(x,o)::l) (a0::a1::a2::a3::a4::a5::a6::a7::a8::a9::a10::a11::a12::a13::a14::a15::a16::a17::a18::a19::a20::a21::a22::(x,some av)::l) := .tail _ S22
theorem S24 : SetL x av (a0::a1::a2::a3::a4::a5::a6::a7::a8::a9::a10::a11::a12::a13::a14::a15::a16::a17::a18::a19::a20::a21::a22::a23::(x,o)::l) (a0::a1::a2::a3::a4::a5::a6::a7::a8::a9::a10::a11::a12::a13::a14::a15::a16::a17::a18::a19::a20::a21::a22::a23::(x,some av)::l) := .tail _ S23
theorem S25 : SetL x av (a0::a1::a2::a3::a4::a5::a6::a7::a8::a9::a10::a11::a12::a13::a14::a15::a16::a17::a18::a19::a20::a21::a22::a23::a24::(x,o)::l) (a0::a1::a2::a3::a4::a5::a6::a7::a8::a9::a10::a11::a12::a13::a14::a15::a16::a17::a18::a19::a20::a21::a22::a23::a24::(x,some av)::l) := .tail _ S24
theorem S26 : SetL x av (a0::a1::a2::a3::a4::a5::a6::a7::a8::a9::a10::a11::a12::a13::a14::a15::a16::a17::a18::a19::a20::a21::a22::a23::a24::a25::(x,o)::l) (a0::a1::a2::a3::a4::a5::a6::a7::a8::a9::a10::a11::a12::a13::a14::a15::a16::a17::a18::a19::a20::a21::a22::a23::a24::a25::(x,some av)::l) := .tail _ S25
theorem GF0 : GetF x av ((x,av)::r) := .head _
theorem GF1 : GetF x av (b0::(x,av)::r) := .tail _ GF0
theorem GF2 : GetF x av (b0::b1::(x,av)::r) := .tail _ GF1
theorem GF3 : GetF x av (b0::b1::b2::(x,av)::r) := .tail _ GF2
theorem GF4 : GetF x av (b0::b1::b2::b3::(x,av)::r) := .tail _ GF3
theorem GF5 : GetF x av (b0::b1::b2::b3::b4::(x,av)::r) := .tail _ GF4
theorem GF6 : GetF x av (b0::b1::b2::b3::b4::b5::(x,av)::r) := .tail _ GF5
theorem GF7 : GetF x av (b0::b1::b2::b3::b4::b5::b6::(x,av)::r) := .tail _ GF6
theorem GF8 : GetF x av (b0::b1::b2::b3::b4::b5::b6::b7::(x,av)::r) := .tail _ GF7
theorem GF9 : GetF x av (b0::b1::b2::b3::b4::b5::b6::b7::b8::(x,av)::r) := .tail _ GF8
theorem GF10 : GetF x av (b0::b1::b2::b3::b4::b5::b6::b7::b8::b9::(x,av)::r) := .tail _ GF9
theorem SF0 : SetF x av ((x,u)::r) ((x,av)::r) := .head _ _
theorem SF1 : SetF x av (b0::(x,u)::r) (b0::(x,av)::r) := .tail _ SF0
theorem SF2 : SetF x av (b0::b1::(x,u)::r) (b0::b1::(x,av)::r) := .tail _ SF1
theorem SF3 : SetF x av (b0::b1::b2::(x,u)::r) (b0::b1::b2::(x,av)::r) := .tail _ SF2
theorem SF4 : SetF x av (b0::b1::b2::b3::(x,u)::r) (b0::b1::b2::b3::(x,av)::r) := .tail _ SF3
theorem SF5 : SetF x av (b0::b1::b2::b3::b4::(x,u)::r) (b0::b1::b2::b3::b4::(x,av)::r) := .tail _ SF4
theorem SF6 : SetF x av (b0::b1::b2::b3::b4::b5::(x,u)::r) (b0::b1::b2::b3::b4::b5::(x,av)::r) := .tail _ SF5
theorem SF7 : SetF x av (b0::b1::b2::b3::b4::b5::b6::(x,u)::r) (b0::b1::b2::b3::b4::b5::b6::(x,av)::r) := .tail _ SF6
theorem SF8 : SetF x av (b0::b1::b2::b3::b4::b5::b6::b7::(x,u)::r) (b0::b1::b2::b3::b4::b5::b6::b7::(x,av)::r) := .tail _ SF7
theorem SF9 : SetF x av (b0::b1::b2::b3::b4::b5::b6::b7::b8::(x,u)::r) (b0::b1::b2::b3::b4::b5::b6::b7::b8::(x,av)::r) := .tail _ SF8
theorem SF10 : SetF x av (b0::b1::b2::b3::b4::b5::b6::b7::b8::b9::(x,u)::r) (b0::b1::b2::b3::b4::b5::b6::b7::b8::b9::(x,av)::r) := .tail _ SF9
theorem M0 : y ∈ y::t := List.mem_cons_self
theorem M1 : y ∈ c0::y::t := List.mem_cons_of_mem _ M0
theorem M2 : y ∈ c0::c1::y::t := List.mem_cons_of_mem _ M1
theorem M3 : y ∈ c0::c1::c2::y::t := List.mem_cons_of_mem _ M2
theorem M4 : y ∈ c0::c1::c2::c3::y::t := List.mem_cons_of_mem _ M3
theorem M5 : y ∈ c0::c1::c2::c3::c4::y::t := List.mem_cons_of_mem _ M4
theorem M6 : y ∈ c0::c1::c2::c3::c4::c5::y::t := List.mem_cons_of_mem _ M5
theorem M7 : y ∈ c0::c1::c2::c3::c4::c5::c6::y::t := List.mem_cons_of_mem _ M6
theorem M8 : y ∈ c0::c1::c2::c3::c4::c5::c6::c7::y::t := List.mem_cons_of_mem _ M7
theorem M9 : y ∈ c0::c1::c2::c3::c4::c5::c6::c7::c8::y::t := List.mem_cons_of_mem _ M8
theorem M10 : y ∈ c0::c1::c2::c3::c4::c5::c6::c7::c8::c9::y::t := List.mem_cons_of_mem _ M9
theorem M11 : y ∈ c0::c1::c2::c3::c4::c5::c6::c7::c8::c9::c10::y::t := List.mem_cons_of_mem _ M10
theorem M12 : y ∈ c0::c1::c2::c3::c4::c5::c6::c7::c8::c9::c10::c11::y::t := List.mem_cons_of_mem _ M11
theorem M13 : y ∈ c0::c1::c2::c3::c4::c5::c6::c7::c8::c9::c10::c11::c12::y::t := List.mem_cons_of_mem _ M12
theorem P0 : Pick y (y::t) (t) := .head _
theorem P1 : Pick y (c0::y::t) (c0::t) := .tail _ P0
theorem P2 : Pick y (c0::c1::y::t) (c0::c1::t) := .tail _ P1
theorem P3 : Pick y (c0::c1::c2::y::t) (c0::c1::c2::t) := .tail _ P2
theorem P4 : Pick y (c0::c1::c2::c3::y::t) (c0::c1::c2::c3::t) := .tail _ P3
theorem P5 : Pick y (c0::c1::c2::c3::c4::y::t) (c0::c1::c2::c3::c4::t) := .tail _ P4
theorem P6 : Pick y (c0::c1::c2::c3::c4::c5::y::t) (c0::c1::c2::c3::c4::c5::t) := .tail _ P5
end
end Mine
namespace Mine
inductive PE (c : Cx) (l : List (Str × Option AV)) : Expr → AV → Prop
 | nm {x : Str} {pos : Pos} {av : AV} (g : GetL x av l) : PE c l (.Name x pos) av
 | gl {x : Str} {pos : Pos} {av : AV} {G : List (Str × AV)} (hG : c.glob = G) (g : (x,av) ∈ G) : PE c l (.Name x pos) av
 | i {i k pos} : PE c l (.Constant (.int i) k pos) (.int i)
 | bo {b k pos} : PE c l (.Constant (.bool b) k pos) (.bool b)
 | no {k pos} : PE c l (.Constant .none k pos) .none
 | st {x k pos} : PE c l (.Constant (.str x) k pos) (.str x)
 | ng {i k p pos} : PE c l (.UnaryOp .USub (.Constant (.int i) k p) pos) (.int (-i))
 | add {a b x y pos} (h1 : PE c l a (.int x)) (h2 : PE c l b (.int y)) : PE c l (.BinOp a .Add b pos) (.int (x + y))
 | sub {a b x y pos} (h1 : PE c l a (.int x)) (h2 : PE c l b (.int y)) : PE c l (.BinOp a .Sub b pos) (.int (x - y))
 | band {a b x y pos} (h1 : PE c l a (.int x)) (h2 : PE c l b (.int y)) : PE c l (.BinOp a .BitAnd b pos) (.int (Builtin.bitAnd x y))
 | bxor {a b x y pos} (h1 : PE c l a (.int x)) (h2 : PE c l b (.int y)) : PE c l (.BinOp a .BitXor b pos) (.int (Builtin.bitXor x y))
variable {c : Cx} {σ : St}
theorem PE.ok {l : List (Str × Option AV)} {e : Expr} {av : AV} (h : PE c l e av) : ∀ {hp : List (Addr × AO)} {Φ : AV → St → Prop},Φ av ⟨l,hp⟩ → WE c e ⟨l,hp⟩ Φ := by
 induction h with
 | nm g => intro hp Φ k;exact ϰa g k
 | gl hG g => intro hp Φ k;exact ϱc hG g k
 | i => intro hp Φ k;exact ϰi k
 | bo => intro hp Φ k;exact ϱi k
 | no => intro hp Φ k;exact ϰaA k
 | st => intro hp Φ k;exact WE.strC k
 | ng => intro hp Φ k;exact WE.negC k
 | add _ _ i1 i2 => intro hp Φ k;exact ϰc (i1 (i2 (ϰX k)))
 | sub _ _ i1 i2 => intro hp Φ k;exact ϰc (i1 (i2 (ϰO k)))
 | band _ _ i1 i2 => intro hp Φ k;exact ϰc (i1 (i2 (ϰaM k)))
 | bxor _ _ i1 i2 => intro hp Φ k;exact ϰc (i1 (i2 (ϱN k)))
theorem ϱQ {e : Expr} {av : AV} {Φ : AV → St → Prop} (h : PE c σ.loc e av) (k : Φ av σ) : WE c e σ Φ := h.ok k
theorem nomarks {op : CmpOp} {r : Expr} (h1 : (op == .In) = false) (h2 : (op == .NotIn) = false) : behindInMarks op r = false := by
 cases r
 case Set e k p =>
  show ((k == 0) && (op == .In || op == .NotIn) && _) = false
  rw [h1,h2];cases k == 0 <;> rfl
 all_goals rfl
inductive PT (c : Cx) (l : List (Str × Option AV)) : Expr → Bool → Prop
 | eq {a b x y pos} (h1 : PE c l a (.int x)) (h2 : PE c l b (.int y)) : PT c l (.Compare a [.Eq] [b] pos) (decide (x = y))
 | ne {a b x y pos} (h1 : PE c l a (.int x)) (h2 : PE c l b (.int y)) : PT c l (.Compare a [.NotEq] [b] pos) (decide (x ≠ y))
 | lt {a b x y pos} (h1 : PE c l a (.int x)) (h2 : PE c l b (.int y)) : PT c l (.Compare a [.Lt] [b] pos) (decide (x < y))
 | le {a b x y pos} (h1 : PE c l a (.int x)) (h2 : PE c l b (.int y)) : PT c l (.Compare a [.LtE] [b] pos) (decide (x ≤ y))
 | gt {a b x y pos} (h1 : PE c l a (.int x)) (h2 : PE c l b (.int y)) : PT c l (.Compare a [.Gt] [b] pos) (decide (y < x))
 | ge {a b x y pos} (h1 : PE c l a (.int x)) (h2 : PE c l b (.int y)) : PT c l (.Compare a [.GtE] [b] pos) (decide (y ≤ x))
 | vb {e b} (h : PE c l e (.bool b)) (he : isTrue e c.env (eval e c.env) = (do let v ← eval e c.env;standAt e.pos;holding [v] (truthy v))) : PT c l e b
 | vi {e i} (h : PE c l e (.int i)) (he : isTrue e c.env (eval e c.env) = (do let v ← eval e c.env;standAt e.pos;holding [v] (truthy v))) : PT c l e (decide (i ≠ 0))
 | no {x b pos} (h : PT c l x b) : PT c l (.UnaryOp .Not x pos) (!b)
theorem PT.ok {l : List (Str × Option AV)} {e : Expr} {b : Bool} (h : PT c l e b) : ∀ {hp : List (Addr × AO)} {Φ : Bool → St → Prop},Φ b ⟨l,hp⟩ → WT c e ⟨l,hp⟩ Φ := by
 induction h with
 | eq h1 h2 => intro hp Φ k;exact ϰu (h1.ok (h2.ok (ϰaj ⟨_,rfl,k⟩))) (nomarks rfl rfl)
 | ne h1 h2 => intro hp Φ k;exact ϰu (h1.ok (h2.ok (ϱj ⟨_,rfl,k⟩))) (nomarks rfl rfl)
 | lt h1 h2 => intro hp Φ k;exact ϰu (h1.ok (h2.ok (ϱV ⟨_,rfl,k⟩))) (nomarks rfl rfl)
 | le h1 h2 => intro hp Φ k;exact ϰu (h1.ok (h2.ok (WCmp.leI ⟨_,rfl,k⟩))) (nomarks rfl rfl)
 | gt h1 h2 => intro hp Φ k;exact ϰu (h1.ok (h2.ok (ϱW ⟨_,rfl,k⟩))) (nomarks rfl rfl)
 | ge h1 h2 => intro hp Φ k;exact ϰu (h1.ok (h2.ok (WCmp.geI ⟨_,rfl,k⟩))) (nomarks rfl rfl)
 | vb h he => intro hp Φ k;exact ϰaz (h.ok (ϱm k)) he
 | vi h he => intro hp Φ k;exact ϰaz (h.ok (WTruth.int k)) he
 | no _ ih => intro hp Φ k;exact WT.not (ih k)
theorem ϰU {e : Expr} {b : Bool} {Φ : Bool → St → Prop} (h : PT c σ.loc e b) (k : Φ b σ) : WT c e σ Φ := h.ok k
theorem itp {t a b pos} {v : Bool} {Φ : AFl → St → Prop} (h : PT c σ.loc t v) (k : (v = true → WSs c a σ Φ) ∧ (v = false → WSs c b σ Φ)) : WS c (.If t a b pos) σ Φ := WS.ite (h.ok k)
inductive PEs (c : Cx) (l : List (Str × Option AV)) : List Expr → List AV → Prop
 | n : PEs c l [] []
 | c {e rest a as} (h : PE c l e a) (t : PEs c l rest as) (he : starEach (e :: rest) c.env = (false,eval e c.env) :: starEach rest c.env) : PEs c l (e :: rest) (a :: as)
theorem ϰz {es : List Expr} {as : List AV} {pos : Pos} {Φ : List AV → St → Prop} (h : PEs c σ.loc es as) (k : Φ as σ) : WEs c pos es σ Φ := by
 obtain ⟨l,hp⟩ := σ
 have key : ∀ {es as},PEs c l es as → ∀ {Φ : List AV → St → Prop},Φ as ⟨l,hp⟩ → WEs c pos es ⟨l,hp⟩ Φ := by
  intro es as h
  induction h with
  | n => intro Φ k;exact ϰl k
  | c h _ he ih => intro Φ k;exact ϰe (h.ok (ih k)) he
 exact key h k
theorem ϰs {x : Str} {px : Pos} {args : List Expr} {pos : Pos} {v : Value} {G : List (Str × AV)} {as : List AV} {Φ : AV → St → Prop} (hG : c.glob = G) (g : (x,.raw v) ∈ G) (h : PEs c σ.loc args as) (hp : plainArgs c pos args) (k : WVs c (.raw v) as σ Φ) : WE c (.Call (.Name x px) args [] pos) σ Φ := ϰr hG g (ϰz h k) hp
theorem nx {st : Stmt} {rest : List Stmt} {Φ : AFl → St → Prop} (h : WS c st σ (seqK c rest Φ)) : seqK c (st :: rest) Φ .next σ := ϰh h
theorem nn {Φ : AFl → St → Prop} (h : Φ .next σ) : seqK c [] Φ .next σ := ϰf h
theorem setN {x : Str} {av : AV} {l l' : List (Str × Option AV)} {hp : List (Addr × AO)} {rest : List Stmt} {Φ : AFl → St → Prop} (s : SetL x av l l') (h : WSs c rest ⟨l',hp⟩ Φ) : ∃ l',SetL x av l l' ∧ seqK c rest Φ .next ⟨l',hp⟩ := ⟨_,s,h⟩
theorem asg {x : Str} {px : Pos} {e : Expr} {pos : Pos} {av : AV} {l l' : List (Str × Option AV)} {hp : List (Addr × AO)} {rest : List Stmt} {Φ : AFl → St → Prop} (h : PE c l e av) (s : SetL x av l l') (hs : swapsWith e (some (.Name x px)) pos.line c.env = pure false) (k : WSs c rest ⟨l',hp⟩ Φ) : WSs c (.Assign [.Name x px] e pos :: rest) ⟨l,hp⟩ Φ := ϰh (WS.assign' (h.ok ⟨_,s,k⟩) hs)
theorem asn {x : Str} {px : Pos} {e : Expr} {pos : Pos} {rest : List Stmt} {Φ : AFl → St → Prop} (h : WE c e σ fun a σ1 => ∃ l',SetL x a σ1.loc l' ∧ seqK c rest Φ .next ⟨l',σ1.hp⟩) (hs : swapsWith e (some (.Name x px)) pos.line c.env = pure false) : WSs c (.Assign [.Name x px] e pos :: rest) σ Φ := ϰh (WS.assign' h hs)
theorem itc {t a b pos} {rest : List Stmt} {v : Bool} {Φ : AFl → St → Prop} (h : PT c σ.loc t v) (k : (v = true → WSs c a σ (seqK c rest Φ)) ∧ (v = false → WSs c b σ (seqK c rest Φ))) : WSs c (.If t a b pos :: rest) σ Φ := ϰh (itp h k)
noncomputable def jK (P : St → Prop) (Φ : AFl → St → Prop) : AFl → St → Prop
 | .next,σ1 => P σ1
 | f,σ1 => Φ f σ1
theorem jK_next {P : St → Prop} {Φ : AFl → St → Prop} (h : P σ) : jK P Φ .next σ := h
theorem jK_ret {P : St → Prop} {Φ : AFl → St → Prop} {v : AV} (h : Φ (.ret v) σ) : jK P Φ (.ret v) σ := h
theorem joinN {st : Stmt} {rest : List Stmt} {Φ : AFl → St → Prop} (P : St → Prop) (h : WS c st σ (jK P Φ)) (k : ∀ σ1,P σ1 → WSs c rest σ1 Φ) : WSs c (st :: rest) σ Φ := ϰh (W.mono h fun f σ' hf => by cases f with
 | next => exact k _ hf
 | brk => exact hf
 | cont => exact hf
 | ret v => exact hf)
theorem itn {t a b pos} {rest : List Stmt} {Φ : AFl → St → Prop} (h : WT c t σ fun v σ1 => (v = true → WSs c a σ1 (seqK c rest Φ)) ∧ (v = false → WSs c b σ1 (seqK c rest Φ))) : WSs c (.If t a b pos :: rest) σ Φ := ϰh (WS.ite h)
theorem cA {α : Type} (a : α) (l m : List α) : a :: l ++ m = a :: (l ++ m) := rfl
theorem nA {α : Type} (m : List α) : [] ++ m = m := rfl
theorem zl {a b : Nat} (e : Nat.ble a b = true) : a ≤ b := Nat.le_of_ble_eq_true e
theorem lmp {α β : Type} {f : α → β} {l : List α} {n : Nat} (h : l.length ≤ n) : (l.map f).length ≤ n := (List.length_map (as := l) f).symm ▸ h
theorem lmq {α β : Type} {f : α → β} {l : List α} {n : Nat} {x : β} (h : l.length + 1 ≤ n) : [x].length + (l.map f).length ≤ n := (List.length_map (as := l) f).symm ▸ (Nat.add_comm _ _ ▸ h)
noncomputable def lm (l : List (Str × Option AV)) : Nat → List (Str × Option AV) :=
 @List.rec _ (fun _ => Nat → List (Str × Option AV)) (fun _ => []) (fun p _ ih n => (p.1,@Nat.rec (fun _ => Option AV) p.2 (fun _ _ => none) (n % 2)) :: ih (n / 2)) l
theorem LM (n : Nat) : ∀ l,LocLe l (lm l n) := by
 intro l
 induction l generalizing n with
 | nil => exact .nil
 | cons p l ih =>
  show LocLe (p :: l) ((p.1,@Nat.rec (fun _ => Option AV) p.2 (fun _ _ => none) (n % 2)) :: lm l (n / 2))
  generalize n % 2 = j
  cases j with
  | zero => exact .keep p (ih _)
  | succ j => exact .drop p.1 p.2 (ih _)
end Mine
namespace Mine
noncomputable abbrev FW : List Str := ["file","block","check","length"]
noncomputable abbrev MW : List (Str × Addr) := [("put",167),("add",174)]
noncomputable abbrev FR : List Str := ["data","block","check","at","block_end","short","skipped","reasons","torn","good_length","breaks"]
noncomputable abbrev MR : List (Str × Addr) := [("drop",209),("turn_block",216),("fragment",223),("read",230)]
theorem meths_nil {K : Frag} {C : Addr} : ∀ x f,(x,f) ∈ ([] : List (Str × Addr)) → findIn K (.ref C) x = some (some (.ref f)) ∧ isFn K (.ref f) = true ∧ keepIn K (.ref f) = true := fun _ _ h => nomatch h
theorem ϱX {K : Frag} {C : Addr} {M : List (Str × Addr)} {y : Str} {g : Addr} (h1 : findIn K (.ref C) y = some (some (.ref g))) (h2 : isFn K (.ref g) = true) (h3 : keepIn K (.ref g) = true) (h : ∀ x f,(x,f) ∈ M → findIn K (.ref C) x = some (some (.ref f)) ∧ isFn K (.ref f) = true ∧ keepIn K (.ref f) = true) :
  ∀ x f,(x,f) ∈ (y,g) :: M → findIn K (.ref C) x = some (some (.ref f)) ∧ isFn K (.ref f) = true ∧ keepIn K (.ref f) = true := fun x f hm => by
 rcases List.mem_cons.mp hm with e | hm
 ·cases e;exact ⟨h1,h2,h3⟩
 ·exact h x f hm
theorem flds_nil {K : Frag} {C : Addr} : ∀ x ∈ ([] : List Str),findIn K (.ref C) x = some none ∧ takerIn K C x = some none := fun _ h => nomatch h
theorem ϰR {K : Frag} {C : Addr} {F : List Str} {y : Str} (h1 : findIn K (.ref C) y = some none) (h2 : takerIn K C y = some none) (h : ∀ x ∈ F,findIn K (.ref C) x = some none ∧ takerIn K C x = some none) :
  ∀ x ∈ y :: F,findIn K (.ref C) x = some none ∧ takerIn K C x = some none := fun x hm => by
 rcases List.mem_cons.mp hm with e | hm
 ·cases e;exact ⟨h1,h2⟩
 ·exact h x hm
theorem clsW (P : Params) : ClsOK (mk0.heap_1 P) 184 FW MW :=
 ⟨by k_is,by k_is,by k_is,by k_is,(ϰR (by k_is) (by k_is) <| ϰR (by k_is) (by k_is) <| ϰR (by k_is) (by k_is) <| ϰR (by k_is) (by k_is) <| flds_nil),
  (ϱX (by k_is) (by k_is) (by k_is) <| ϱX (by k_is) (by k_is) (by k_is) <| meths_nil)⟩
theorem clsR (P : Params) : ClsOK (mk0.heap_1 P) 233 FR MR :=
 ⟨by k_is,by k_is,by k_is,by k_is,(ϰR (by k_is) (by k_is) <| ϰR (by k_is) (by k_is) <| ϰR (by k_is) (by k_is) <| ϰR (by k_is) (by k_is) <| ϰR (by k_is) (by k_is) <| ϰR (by k_is) (by k_is) <| ϰR (by k_is) (by k_is) <| ϰR (by k_is) (by k_is) <| ϰR (by k_is) (by k_is) <| ϰR (by k_is) (by k_is) <| ϰR (by k_is) (by k_is) <| flds_nil),
  (ϱX (by k_is) (by k_is) (by k_is) <| ϱX (by k_is) (by k_is) (by k_is) <| ϱX (by k_is) (by k_is) (by k_is) <| ϱX (by k_is) (by k_is) (by k_is) <| meths_nil)⟩
theorem ϰan {K : Frag} {P : Params} (h : K = mk0.heap_1 P) : ClsOK K 184 FW MW := h ▸ clsW P
theorem ϱt {K : Frag} {P : Params} (h : K = mk0.heap_1 P) : ClsOK K 233 FR MR := h ▸ clsR P
theorem mkW (P : Params) : makesIn (mk0.heap_1 P) 184 = true ∧ findIn (mk0.heap_1 P) (.ref 184) "__init__" = some (some (.ref 160)) ∧ typeIn (mk0.heap_1 P) (.ref 160) = some (.type "function") := ⟨by k_is,by k_is,by k_is⟩
theorem mkR (P : Params) : makesIn (mk0.heap_1 P) 233 = true ∧ findIn (mk0.heap_1 P) (.ref 233) "__init__" = some (some (.ref 202)) ∧ typeIn (mk0.heap_1 P) (.ref 202) = some (.type "function") := ⟨by k_is,by k_is,by k_is⟩
end Mine
namespace Mine
set_option maxHeartbeats 4000000
section
variable {c : Cx} {σ : St} {dp un : Nat} {Φ : AV → St → Prop}
theorem mask_ok {x : Int} (hK : c.K = mk0.heap_1 c.w.params) (hr : dp + 1 < 900) (h0 : x.natAbs < 2 ^ 64) (h : Φ (.int (maskF x)) σ) : Enters c dp un 118 [.int x] σ Φ := by
 refine Enters.post ?_
 refine Enters.of (args := ["c"]) (more := []) (G := [("MASK_DELTA",.int 2726488792),("MAX_32",.int 4294967295)]) (foot := []) (rest := σ.hp) (by rw [hK];k_is) (by rw [hK];k_is) (room hr) rfl (fun vs e => by obtain ⟨v0,rfl⟩ := len1 e;rfl) (by decide) (by rfl) (by rfl) rfl rfl rfl (by rw [hK];exact (ϰg (gf_MASK_DELTA _) (ϰg (gf_MAX_32 _) ϰD))) (by rfl) (List.Perm.refl _) ?_
 intro c' I
 have F : Fix mk0.heap_1 c' 0 := I.fix hK (by exact δb hr rfl)
 have hG := I.glob
 have hcb : c'.cb = c.cb := I.cb
 have Fd := F.dp
 show WSs c' _ ⟨[("c",some (.int x))],_⟩ _
 refine' ϰh ?_;refine' ϰP ?_;refine' ϰc ?_;refine' ϰc ?_;refine' ϰc ?_;refine' ϰc ?_;refine' ϰa G0 ?_
 refine' ϰi ?_;refine' ϰaB ?_ ?_;decide;refine' ϰc ?_;refine' ϰa G0 ?_;refine' ϰi ?_;refine' WBin.shlS ?_ ?_ ?_ ?_;decide
 decide;exact ω1 [] [_] (.Lt ν0 (.n 18446744073709551616)) (.Lt ν0 (.n 18446744073709551616)) h0 rfl;refine' WBin.bor ?_;refine' ϱc hG M0 ?_;refine' ϰX ?_;refine' ϱc hG M1 ?_;refine' ϰaM ?_;refine' ϰm ?_
 refine' ϰx ?_;rotate_left
 exact ⟨_,Le.pre _ _ _,h⟩
theorem put_ok {n : Int} (hK : c.K = mk0.heap_1 c.w.params) (hr : dp + 1 < 900) (h0 : 0 ≤ n) (h1 : n ≤ 4294967295) (h : Φ (.bytes (le4 n)) σ) : Enters c dp un 89 [.int n] σ Φ := by
 refine Enters.post ?_
 refine Enters.of (args := ["n"]) (more := []) (G := [("MAX_32",.int 4294967295),("bytes",.raw (.type "bytes"))]) (foot := []) (rest := σ.hp) (by rw [hK];k_is) (by rw [hK];k_is) (room hr) rfl (fun vs e => by obtain ⟨v0,rfl⟩ := len1 e;rfl) (by decide) (by rfl) (by rfl) rfl rfl rfl (by rw [hK];exact (ϰg (gf_MAX_32 _) (ϰg (ϰag _) ϰD))) (by rfl) (List.Perm.refl _) ?_
 intro c' I
 have F : Fix mk0.heap_1 c' 0 := I.fix hK (by exact δb hr rfl)
 have hG := I.glob
 have hcb : c'.cb = c.cb := I.cb
 have Fd := F.dp
 show WSs c' _ ⟨[("n",some (.int n))],_⟩ _
 refine' itn ?_;refine' ϰY ?_;refine' ϰU (.lt (.nm G0) .i) ?_;refine' qD' (fun hc => ?_) (fun hc => (by exfalso;exact β2 [_] [] (.lt ξ0 (.n 0)) (.le (.n 0) ξ0) hc h0 rfl));refine' ϰY ?_
 refine' ϰU (.gt (.nm G0) (.gl hG M0)) ?_;refine' qD' (fun hc => ?_) (fun hc => (by exfalso;exact β2 [_] [] (.lt (.n 4294967295) ξ0) (.le ξ0 (.n 4294967295)) hc h1 rfl));refine' ϰE ?_;refine' fT ?_
 refine' ϰf ?_;refine' nx ?_;refine' ϰP ?_;refine' ϰr hG M1 ?_ rfl;refine' ϰe ?_ rfl;refine' ϰF ?_;refine' ϰe ?_ rfl
 refine' ϱQ (.band (.nm G0) .i) ?_;refine' ϰe ?_ rfl;refine' ϰc ?_;refine' ϰc ?_;refine' ϰa G0 ?_;refine' ϰi ?_
 refine' ϰaB ?_ ?_;decide;refine' ϰi ?_;refine' ϰaM ?_;refine' ϰe ?_ rfl;refine' ϰc ?_;refine' ϰc ?_
 refine' ϰa G0 ?_;refine' ϰi ?_;refine' ϰaB ?_ ?_;decide;refine' ϰi ?_;refine' ϰaM ?_;refine' ϰe ?_ rfl
 refine' ϰc ?_;refine' ϰa G0 ?_;refine' ϰi ?_;refine' ϰaB ?_ ?_;decide;refine' ϰl ?_
 refine' ϱr (zl rfl) (fun _ => ?_);dsimp only [cA,nA];refine' ϰl ?_;rotate_left
 refine bytesD (ns := le4 n) (Pick.head _) rfl (le4_bytes h0 h1) (by simp [le4]) ?_
 exact ⟨_,Le.pre _ _ _,h⟩
theorem read4_ok {d : List Int} {i : Int} (hK : c.K = mk0.heap_1 c.w.params) (hr : dp + 1 < 900) (h0 : 0 ≤ i) (h1 : i + 4 ≤ d.length) (hz : d.length ≤ 16777216) (h : Φ (.int (rd4 d i)) σ) : Enters c dp un 96 [.bytes d,.int i] σ Φ := by
 refine Enters.post ?_
 refine Enters.of (args := ["data","at"]) (more := []) (G := [("len",.raw (.builtin "len"))]) (foot := []) (rest := σ.hp) (by rw [hK];k_is) (by rw [hK];k_is) (room hr) rfl (fun vs e => by obtain ⟨v0,v1,rfl⟩ := len2 e;rfl) (by decide) (by rfl) (by rfl) rfl rfl rfl (by rw [hK];exact (ϰg (ϰaD _) ϰD)) (by rfl) (List.Perm.refl _) ?_
 intro c' I
 have F : Fix mk0.heap_1 c' 0 := I.fix hK (by exact δb hr rfl)
 have hG := I.glob
 have hcb : c'.cb = c.cb := I.cb
 have Fd := F.dp
 show WSs c' _ ⟨[("data",some (.bytes d)),("at",some (.int i))],_⟩ _
 refine' itn ?_;refine' ϰY ?_;refine' ϰU (.lt (.nm G1) .i) ?_;refine' qD' (fun hc => ?_) (fun hc => (by exfalso;exact β2 [_] [] (.lt ξ0 (.n 0)) (.le (.n 0) ξ0) hc h0 rfl));refine' ϰY ?_
 refine' ϰu ?_ rfl;refine' ϱQ (.add (.nm G1) .i) ?_;refine' ϰs hG M0 (.c (.nm G0) .n rfl) rfl ?_;refine' ϰv ?_ ?_;exact δc hz rfl
 refine' ϱW ?_;refine' isB ?_;refine' qD' (fun hc => ?_) (fun hc => (by exfalso;exact β2 [_] [_] (.lt (.c ν0) (.a ξ0 (.n 4))) (.le (.a ξ0 (.n 4)) (.c ν0)) hc h1 rfl));refine' ϰE ?_;refine' fT ?_;refine' ϰf ?_
 refine' nx ?_;refine' ϰP ?_;refine' ϰc ?_;refine' ϰc ?_;refine' ϰc ?_;refine' ϰI ?_;refine' ϰa G0 ?_
 refine' ϰa G1 ?_;refine' ϰH (fun _ _ => rfl) ?_ ?_ ?_ (fun _ _ => ?_);exact δj h0 rfl;exact ω1 [_] [_] (.lt ξ0 (.c ν0)) (.nlt (.c ν0) (.a ξ0 (.n 4))) hc rfl;exact δc hz rfl;refine' ϰc ?_;refine' ϰI ?_
 refine' ϰa G0 ?_;refine' ϱQ (.add (.nm G1) .i) ?_;refine' ϰH (fun _ _ => rfl) ?_ ?_ ?_ (fun _ _ => ?_);exact δJ h0 rfl;exact ω1 [_] [_] (.lt (.a ξ0 (.n 1)) (.c ν0)) (.nlt (.c ν0) (.a ξ0 (.n 4))) hc rfl;exact δc hz rfl
 refine' ϰi ?_;refine' WBin.shlS ?_ ?_ ?_ ?_;decide;decide;exact δq (by assumption) (by assumption) rfl;refine' WBin.bor ?_;refine' ϰc ?_;refine' ϰI ?_
 refine' ϰa G0 ?_;refine' ϱQ (.add (.nm G1) .i) ?_;refine' ϰH (fun _ _ => rfl) ?_ ?_ ?_ (fun _ _ => ?_);exact δJ h0 rfl;exact ω1 [_] [_] (.lt (.a ξ0 (.n 2)) (.c ν0)) (.nlt (.c ν0) (.a ξ0 (.n 4))) hc rfl;exact δc hz rfl
 refine' ϰi ?_;refine' WBin.shlS ?_ ?_ ?_ ?_;decide;decide;exact δq (by assumption) (by assumption) rfl;refine' WBin.bor ?_;refine' ϰc ?_;refine' ϰI ?_
 refine' ϰa G0 ?_;refine' ϱQ (.add (.nm G1) .i) ?_;refine' ϰH (fun _ _ => rfl) ?_ ?_ ?_ (fun _ _ => ?_);exact δJ h0 rfl;exact ω1 [_] [_] (.lt (.a ξ0 (.n 3)) (.c ν0)) (.nlt (.c ν0) (.a ξ0 (.n 4))) hc rfl;exact δc hz rfl
 refine' ϰi ?_;refine' WBin.shlS ?_ ?_ ?_ ?_;decide;decide;exact δq (by assumption) (by assumption) rfl;refine' WBin.bor ?_;refine' ϰm ?_;refine' ϰx ?_;rotate_left
 exact ⟨_,Le.pre _ _ _,h⟩
theorem ϰay {i : Int} (hK : c.K = mk0.heap_1 c.w.params) (hr : dp + 1 < 900) (h0 : 8 ≤ i) (h1 : i ≤ 65542) (h : Φ .none σ) : Enters c dp un 132 [.int i] σ Φ := by
 refine Enters.post ?_
 refine Enters.of (args := ["block"]) (more := []) (G := [("HEADER",.int 7),("MAX_BLOCK",.int 65542)]) (foot := []) (rest := σ.hp) (by rw [hK];k_is) (by rw [hK];k_is) (room hr) rfl (fun vs e => by obtain ⟨v0,rfl⟩ := len1 e;rfl) (by decide) (by rfl) (by rfl) rfl rfl rfl (by rw [hK];exact (ϰg (gf_HEADER _) (ϰg (gf_MAX_BLOCK _) ϰD))) (by rfl) (List.Perm.refl _) ?_
 intro c' I
 have F : Fix mk0.heap_1 c' 0 := I.fix hK (by exact δb hr rfl)
 have hG := I.glob
 have hcb : c'.cb = c.cb := I.cb
 have Fd := F.dp
 show WSs c' _ ⟨[("block",some (.int i))],_⟩ _
 refine' itn ?_;refine' ϰY ?_;refine' ϰU (.lt (.nm G0) (.add (.gl hG M0) .i)) ?_;refine' qD' (fun hc => ?_) (fun hc => (by exfalso;exact β2 [_] [] (.lt ξ0 (.a (.n 7) (.n 1))) (.le (.n 8) ξ0) hc h0 rfl))
 refine' ϰY ?_;refine' ϰU (.gt (.nm G0) (.gl hG M1)) ?_;refine' qD' (fun hc => ?_) (fun hc => (by exfalso;exact β2 [_] [] (.lt (.n 65542) ξ0) (.le ξ0 (.n 65542)) hc h1 rfl));refine' ϰE ?_
 refine' fT ?_;refine' ϰf ?_;refine' nn ?_;refine' ϱg ?_;rotate_left
 exact ⟨_,Le.pre _ _ _,h⟩
theorem ϰaH {i : Int} (hK : c.K = mk0.heap_1 c.w.params) (hr : dp + 1 < 900) (h0 : i = 1 ∨ i = 2) (h : Φ .none σ) : Enters c dp un 139 [.int i] σ Φ := by
 refine Enters.post ?_
 refine Enters.of (args := ["check"]) (more := []) (G := [("CHECK_CRC",.int 1),("CHECK_SUM",.int 2)]) (foot := []) (rest := σ.hp) (by rw [hK];k_is) (by rw [hK];k_is) (room hr) rfl (fun vs e => by obtain ⟨v0,rfl⟩ := len1 e;rfl) (by decide) (by rfl) (by rfl) rfl rfl rfl (by rw [hK];exact (ϰg (gf_CHECK_CRC _) (ϰg (gf_CHECK_SUM _) ϰD))) (by rfl) (List.Perm.refl _) ?_
 intro c' I
 have F : Fix mk0.heap_1 c' 0 := I.fix hK (by exact δb hr rfl)
 have hG := I.glob
 have hcb : c'.cb = c.cb := I.cb
 have Fd := F.dp
 show WSs c' _ ⟨[("check",some (.int i))],_⟩ _
 refine' itn ?_;refine' ϱb ?_;refine' ϰU (.ne (.nm G0) (.gl hG M0)) ?_;refine' qD (fun hc => ?_) (fun hc => ?_);refine' ϱb ?_
 refine' ϰU (.ne (.nm G0) (.gl hG M1)) ?_;refine' qD (fun hc => (by exfalso;omega)) (fun hc => ?_);refine' fT ?_;refine' ϰf ?_;refine' nn ?_
 refine' ϱg ?_;rotate_left;refine' fT ?_;refine' ϰf ?_;refine' nn ?_;refine' ϱg ?_;rotate_left
 all_goals exact ⟨_,Le.pre _ _ _,h⟩
theorem draw_ok {ns : List Int} {i : Int} {l : Addr} {rest : List (Addr × AO)} (hK : c.K = mk0.heap_1 c.w.params) (hr : dp + 1 < 900) (h0 : 0 ≤ i) (h1 : i < 100) (hn : 0 < ns.length) (hz : ns.length < 100) (pk : Pick (l,.list (ns.map AV.int)) σ.hp rest) (h : Φ (.int (drawF ns i)) ⟨σ.loc,(l,.list (ns.map AV.int)) :: rest⟩) : Enters c dp un 251 [.ref l,.int i] σ Φ := by
 refine Enters.post ?_
 refine Enters.of (args := ["nums","i"]) (more := []) (G := [("len",.raw (.builtin "len"))]) (foot := [(l,.list (ns.map AV.int))]) (rest := rest) (by rw [hK];k_is) (by rw [hK];k_is) (room hr) rfl (fun vs e => by obtain ⟨v0,v1,rfl⟩ := len2 e;rfl) (by decide) (by rfl) (by rfl) rfl rfl rfl (by rw [hK];exact (ϰg (ϰaD _) ϰD)) (by rfl) pk.perm ?_
 intro c' I
 have F : Fix mk0.heap_1 c' 0 := I.fix hK (by exact δb hr rfl)
 have hG := I.glob
 have hcb : c'.cb = c.cb := I.cb
 have Fd := F.dp
 show WSs c' _ ⟨[("nums",some (.ref l)),("i",some (.int i))],_⟩ _
 have hq0 := Int.ediv_nonneg h0 (show (0:Int) ≤ ns.length by exact δz _)
 have hq1 := Int.ediv_le_self (ns.length : Int) h0
 refine' ϰh ?_;refine' ϰP ?_;refine' ϰc ?_;refine' ϰI ?_;refine' ϰa G0 ?_;refine' ϰc ?_;refine' ϰa G1 ?_
 refine' ϰs hG M0 (.c (.nm G0) .n rfl) rfl ?_;refine' ϰT P0 ?_ ?_;exact ω1 [] [_] (.Le ν0 (.n 16777216)) (.Lt ν0 (.n 100)) hz rfl;refine' ϰC ?_ ?_;exact ω1 [] [_] (.lt (.n 0) (.c ν0)) (.Lt (.n 0) ν0) hn rfl
 refine' ϱB (d := (0:Int)) (Pick.head _) (fun _ _ => rfl) ?_ ?_ ?_ ?_;exact Int.emod_nonneg _ (by exact fun hq => β2 [] [_] (.Lt (.n 0) ν0) (.eq (.c ν0) (.n 0)) hn hq rfl);exact Int.emod_lt_of_pos _ (by exact ω1 [] [_] (.lt (.n 0) (.c ν0)) (.Lt (.n 0) ν0) hn rfl)
 exact ω1 [] [_] (.Le ν0 (.n 16777216)) (.Lt ν0 (.n 100)) hz rfl;refine' ϰc ?_;refine' ϰi ?_;refine' ϰc ?_;refine' ϰa G1 ?_;refine' ϰs hG M0 (.c (.nm G0) .n rfl) rfl ?_
 refine' ϰT P0 ?_ ?_;exact ω1 [] [_] (.Le ν0 (.n 16777216)) (.Lt ν0 (.n 100)) hz rfl;refine' ϱx ?_ ?_ ?_;exact ω1 [] [_] (.lt (.n 0) (.c ν0)) (.Lt (.n 0) ν0) hn rfl;exact ω1 [] [_] (.lt (.c ν0) (.n 1073741824)) (.Lt ν0 (.n 100)) hz rfl;refine' ϰS ?_ ?_ ?_;exact Nat.le_of_ble_eq_true rfl;exact ω3 [_,_] [_] (.Lt ν0 (.n 18446744073709551616)) (.le ξ0 ξ1) (.lt ξ1 (.n 100)) (.eq (.c ν0) ξ0) hq1 h1 (Int.natAbs_of_nonneg (δj hq0 rfl)) rfl;refine' ϰX ?_
 refine' ϰm ?_;refine' ϰx ?_;rotate_left
 exact ⟨_,Le.refl _,h⟩
end
theorem bitNot_not (x : Int) : Builtin.bitNot (Builtin.bitNot x) = x := by unfold Builtin.bitNot;exact η0 [_] [] (.eq (.s (.g (.s (.g ξ0) (.n 1))) (.n 1)) ξ0) [1] [1] rfl
theorem bitOr_pp {x y : Int} (hx : 0 ≤ x) (hy : 0 ≤ y) : Builtin.bitOr x y = ((x.toNat ||| y.toNat : Nat) : Int) := by
 have h1 : ¬ 0 ≤ Builtin.bitNot x := by unfold Builtin.bitNot;exact ω1 [_] [] (.nle (.n 0) (.s (.g ξ0) (.n 1))) (.le (.n 0) ξ0) hx rfl
 have h2 : ¬ 0 ≤ Builtin.bitNot y := by unfold Builtin.bitNot;exact ω1 [_] [] (.nle (.n 0) (.s (.g ξ0) (.n 1))) (.le (.n 0) ξ0) hy rfl
 unfold Builtin.bitOr
 rw [bitAnd_nn h1 h2,bitNot_not,bitNot_not,bitNot_not]
theorem bitOr_lt {x y : Int} (hx : 0 ≤ x) (hy : 0 ≤ y) (n : Nat) (h1 : x < 2 ^ n) (h2 : y < 2 ^ n) : 0 ≤ Builtin.bitOr x y ∧ Builtin.bitOr x y < 2 ^ n := by
 rw [bitOr_pp hx hy]
 refine ⟨by exact δz _,?_⟩
 have e : ((2 ^ n : Nat) : Int) = 2 ^ n := by simp
 have := Nat.or_lt_two_pow (x := x.toNat) (y := y.toNat) (n := n) (by exact κ3 [_,_] [_,_] (.Lt ν0 ν1) (.eq (.c ν1) ξ0) (.lt ξ1 ξ0) (.eq (.c ν0) ξ1) [1,-1,1,1] e h1 (Int.toNat_of_nonneg (δj hx rfl)) rfl) (by exact κ3 [_,_] [_,_] (.Lt ν0 ν1) (.eq (.c ν1) ξ0) (.lt ξ1 ξ0) (.eq (.c ν0) ξ1) [1,-1,1,1] e h2 (Int.toNat_of_nonneg (δj hy rfl)) rfl)
 exact ω2 [_] [_,_] (.lt (.c ν0) ξ0) (.Lt ν0 ν1) (.eq (.c ν1) ξ0) this e rfl
theorem bitXor_lt {x y : Int} (hx : 0 ≤ x) (hy : 0 ≤ y) (n : Nat) (h1 : x < 2 ^ n) (h2 : y < 2 ^ n) : 0 ≤ Builtin.bitXor x y ∧ Builtin.bitXor x y < 2 ^ n := by
 have a := bitOr_lt hx hy n h1 h2
 have b := bitAnd_range x hy
 have d := bitOr_and x y
 have b' := bitAnd_range y hx
 rw [bitAnd_comm] at b'
 unfold Builtin.bitXor
 exact ⟨κ3 [_,_,_,_] [] (.le (.n 0) (.s ξ0 ξ1)) (.le ξ1 ξ2) (.eq ξ0 (.s (.a ξ2 ξ3) ξ1)) (.le ξ1 ξ3) [1,1,-1,1] b'.2 d b.2 rfl,ω2 [_,_,_] [] (.lt (.s ξ0 ξ1) ξ2) (.le (.n 0) ξ1) (.lt ξ0 ξ2) b'.1 a.2 rfl⟩
noncomputable def In32 (x : Int) : Prop := 0 ≤ x ∧ x < 4294967296
theorem xor32 {x y : Int} (hx : In32 x) (hy : In32 y) : In32 (Builtin.bitXor x y) := bitXor_lt hx.1 hy.1 32 hx.2 hy.2
theorem crcTab_in (i : Nat) : In32 (crcTab.getD i 0) := by
 have h : ∀ j : Nat,j < 16 → In32 (crcTab.getD j 0) := by unfold In32;decide
 by_cases hi : i < 16
 ·exact h i hi
 ·have : crcTab.getD i 0 = 0 := by rw [List.getD_eq_getElem?_getD,List.getElem?_eq_none (by show 16 ≤ i;exact ω1 [] [_] (.Le (.n 16) ν0) (.NLt ν0 (.n 16)) hi rfl)];rfl
  rw [this];unfold In32;exact ⟨by decide,by decide⟩
theorem shr4 {x : Int} (h : In32 x) : In32 (x / 2 ^ (4 : Int).toNat) := by
 have e : (2 : Int) ^ (4 : Int).toNat = 16 := by decide
 rw [e];unfold In32 at *;exact ⟨κ3 [_,_,_] [] (.le (.n 0) ξ0) (.le (.n 0) ξ1) (.eq (.a (.m 16 ξ0) ξ2) ξ1) (.lt ξ2 (.n 16)) [16,1,-1,1] h.1 (Int.mul_ediv_add_emod _ _) (Int.emod_lt_of_pos _ (by decide)) rfl,κ3 [_,_,_] [] (.lt ξ0 (.n 4294967296)) (.lt ξ1 (.n 4294967296)) (.eq (.a (.m 16 ξ0) ξ2) ξ1) (.le (.n 0) ξ2) [16,1,1,1] h.2 (Int.mul_ediv_add_emod _ _) (Int.emod_nonneg _ (by decide)) rfl⟩
theorem crcStep_in {c o : Int} (hc : In32 c) (ho : 0 ≤ o ∧ o < 256) : In32 (crcStep c o) := by
 have ho' : In32 o := ⟨ho.1,by exact δi ho.2 rfl⟩
 unfold crcStep
 exact xor32 (shr4 (xor32 (shr4 (xor32 hc ho')) (crcTab_in _))) (crcTab_in _)
theorem crcFold_in : ∀ (d : Y) (c : Int),In32 c → (∀ x ∈ d,0 ≤ x ∧ x < 256) → In32 (d.foldl crcStep c)
 | [],c,h,_ => h
 | o :: d,c,h,hd => crcFold_in d _ (crcStep_in h (hd o (.head _))) fun x hx => hd x (.tail _ hx)
theorem crcF_in {d : Y} (hd : ∀ x ∈ d,0 ≤ x ∧ x < 256) : In32 (crcF d) := xor32 (crcFold_in d _ (by unfold In32;exact ⟨by decide,by decide⟩) hd) (by unfold In32;exact ⟨by decide,by decide⟩)
theorem maskF_in (x : Int) : In32 (maskF x) := by
 unfold maskF;rw [bitAnd_m32];unfold In32;exact ⟨δn rfl,δm rfl⟩
theorem ckF_in (k : Int) (d : Y) : In32 (ckF k d) := by
 unfold ckF
 split
 ·exact maskF_in _
 ·rw [bitAnd_m32];unfold In32;exact ⟨δn rfl,δm rfl⟩
theorem or_shift {a b : Int} (n : Nat) (ha : 0 ≤ a) (h : a < 2 ^ n) (hb : 0 ≤ b) : Builtin.bitOr a (b * 2 ^ n) = a + b * 2 ^ n := by
 have e : ((2 ^ n : Nat) : Int) = 2 ^ n := by simp
 have hp : (0 : Int) < 2 ^ n := Int.pow_pos (by decide)
 have hb' : 0 ≤ b * 2 ^ n := Int.mul_nonneg hb (Int.le_of_lt hp)
 obtain ⟨b',rfl⟩ := Int.eq_ofNat_of_zero_le hb
 obtain ⟨a',rfl⟩ := Int.eq_ofNat_of_zero_le ha
 rw [bitOr_pp ha hb',← e]
 have h1 : ((b' : Int) * ((2 ^ n : Nat) : Int)).toNat = b' <<< n := by
  rw [← Int.natCast_mul,Int.toNat_natCast,Nat.shiftLeft_eq]
 rw [h1,Int.toNat_natCast,Nat.or_comm,← Nat.shiftLeft_add_eq_or_of_lt (by exact κ2 [_] [_,_] (.Lt ν0 ν1) (.lt (.c ν0) ξ0) (.eq (.c ν1) ξ0) [1,1,-1] h e rfl),Nat.shiftLeft_eq]
 push_cast
 exact η0 [_] [_] (.eq (.a ξ0 (.c ν0)) (.a (.c ν0) ξ0)) [1] [1] rfl
theorem rd4_val {b0 b1 b2 b3 : Int} (h0 : 0 ≤ b0 ∧ b0 < 256) (h1 : 0 ≤ b1 ∧ b1 < 256) (h2 : 0 ≤ b2 ∧ b2 < 256) (h3 : 0 ≤ b3 ∧ b3 < 256) :
  Builtin.bitOr (Builtin.bitOr (Builtin.bitOr b0 (b1 * 2 ^ (8 : Int).toNat)) (b2 * 2 ^ (16 : Int).toNat)) (b3 * 2 ^ (24 : Int).toNat) = b0 + b1 * 256 + b2 * 65536 + b3 * 16777216 := by
 have e8 : (8 : Int).toNat = 8 := rfl
 have e16 : (16 : Int).toNat = 16 := rfl
 have e24 : (24 : Int).toNat = 24 := rfl
 rw [e8,e16,e24,or_shift 8 h0.1 (by exact δi h0.2 rfl) h1.1,or_shift 16 (by exact κ2 [_,_] [] (.le (.n 0) (.a ξ0 (.r ξ1 256))) (.le (.n 0) ξ1) (.le (.n 0) ξ0) [1,256,1] h1.1 h0.1 rfl) (by exact κ2 [_,_] [] (.lt (.a ξ0 (.r ξ1 256)) (.n 65536)) (.lt ξ1 (.n 256)) (.lt ξ0 (.n 256)) [1,256,1] h1.2 h0.2 rfl) h2.1,or_shift 24 (by exact κ3 [_,_,_] [] (.le (.n 0) (.a (.a ξ0 (.r ξ1 256)) (.r ξ2 65536))) (.le (.n 0) ξ2) (.le (.n 0) ξ1) (.le (.n 0) ξ0) [1,65536,256,1] h2.1 h1.1 h0.1 rfl) (by exact κ3 [_,_,_] [] (.lt (.a (.a ξ0 (.r ξ1 256)) (.r ξ2 65536)) (.n 16777216)) (.lt ξ2 (.n 256)) (.lt ξ1 (.n 256)) (.lt ξ0 (.n 256)) [1,65536,256,1] h2.2 h1.2 h0.2 rfl) h3.1]
 exact η0 [_,_,_,_] [] (.eq (.a (.a (.a ξ0 (.r ξ1 256)) (.r ξ2 65536)) (.r ξ3 16777216)) (.a (.a (.a ξ0 (.r ξ1 256)) (.r ξ2 65536)) (.r ξ3 16777216))) [1] [1] rfl
theorem le4_val {n : Int} (h0 : 0 ≤ n) (h1 : n < 4294967296) : le4 n = [n % 256,n / 256 % 256,n / 65536 % 256,n / 16777216] := by
 have e8 : (2 : Int) ^ (8 : Int).toNat = 256 := by decide
 have e16 : (2 : Int) ^ (16 : Int).toNat = 65536 := by decide
 have e24 : (2 : Int) ^ (24 : Int).toNat = 16777216 := by decide
 simp only [le4,bitAnd_m8,e8,e16,e24]
theorem uk {a q r k : Int} (hk : 0 < k) (h : r + k * q = a) (h0 : 0 ≤ r) (h1 : r < k) : a / k = q ∧ a % k = r := (Int.ediv_emod_unique hk).mpr ⟨h,h0,h1⟩
theorem rd_fwd {b0 b1 b2 b3 n : Int} (h0 : 0 ≤ b0 ∧ b0 < 256) (h1 : 0 ≤ b1 ∧ b1 < 256) (h2 : 0 ≤ b2 ∧ b2 < 256) (h : b0 + b1 * 256 + b2 * 65536 + b3 * 16777216 = n) : b0 = n % 256 ∧ b1 = n / 256 % 256 ∧ b2 = n / 65536 % 256 ∧ b3 = n / 16777216 := by
 have e1 := uk (a := n) (q := b1 + 256 * b2 + 65536 * b3) (r := b0) (k := 256) (by decide) (by exact η1 [_,_,_,_,_] [] (.eq (.a ξ0 (.m 256 (.a (.a ξ1 (.m 256 ξ2)) (.m 65536 ξ3)))) ξ4) (.eq (.a (.a (.a ξ0 (.r ξ1 256)) (.r ξ2 65536)) (.r ξ3 16777216)) ξ4) [1,-1] [1,1] h rfl) h0.1 h0.2
 have e2 := uk (a := b1 + 256 * b2 + 65536 * b3) (q := b2 + 256 * b3) (r := b1) (k := 256) (by decide) (by exact η0 [_,_,_] [] (.eq (.a ξ0 (.m 256 (.a ξ1 (.m 256 ξ2)))) (.a (.a ξ0 (.m 256 ξ1)) (.m 65536 ξ2))) [1] [1] rfl) h1.1 h1.2
 have e3 := uk (a := n) (q := b2 + 256 * b3) (r := b0 + 256 * b1) (k := 65536) (by decide) (by exact η1 [_,_,_,_,_] [] (.eq (.a (.a ξ0 (.m 256 ξ1)) (.m 65536 (.a ξ2 (.m 256 ξ3)))) ξ4) (.eq (.a (.a (.a ξ0 (.r ξ1 256)) (.r ξ2 65536)) (.r ξ3 16777216)) ξ4) [1,-1] [1,1] h rfl) (by exact κ2 [_,_] [] (.le (.n 0) (.a ξ0 (.m 256 ξ1))) (.le (.n 0) ξ1) (.le (.n 0) ξ0) [1,256,1] h1.1 h0.1 rfl) (by exact κ2 [_,_] [] (.lt (.a ξ0 (.m 256 ξ1)) (.n 65536)) (.lt ξ1 (.n 256)) (.lt ξ0 (.n 256)) [1,256,1] h1.2 h0.2 rfl)
 have e4 := uk (a := b2 + 256 * b3) (q := b3) (r := b2) (k := 256) (by decide) rfl h2.1 h2.2
 have e5 := uk (a := n) (q := b3) (r := b0 + 256 * b1 + 65536 * b2) (k := 16777216) (by decide) (by exact η1 [_,_,_,_,_] [] (.eq (.a (.a (.a ξ0 (.m 256 ξ1)) (.m 65536 ξ2)) (.m 16777216 ξ3)) ξ4) (.eq (.a (.a (.a ξ0 (.r ξ1 256)) (.r ξ2 65536)) (.r ξ3 16777216)) ξ4) [1,-1] [1,1] h rfl) (by exact κ3 [_,_,_] [] (.le (.n 0) (.a (.a ξ0 (.m 256 ξ1)) (.m 65536 ξ2))) (.le (.n 0) ξ2) (.le (.n 0) ξ1) (.le (.n 0) ξ0) [1,65536,256,1] h2.1 h1.1 h0.1 rfl) (by exact κ3 [_,_,_] [] (.lt (.a (.a ξ0 (.m 256 ξ1)) (.m 65536 ξ2)) (.n 16777216)) (.lt ξ2 (.n 256)) (.lt ξ1 (.n 256)) (.lt ξ0 (.n 256)) [1,65536,256,1] h2.2 h1.2 h0.2 rfl)
 rw [e1.1,e3.1]
 exact ⟨e1.2.symm,e2.2.symm,e4.2.symm,e5.1.symm⟩
theorem rd_eq {b0 b1 b2 b3 n : Int} (h0 : 0 ≤ b0 ∧ b0 < 256) (h1 : 0 ≤ b1 ∧ b1 < 256) (h2 : 0 ≤ b2 ∧ b2 < 256) (h3 : 0 ≤ b3 ∧ b3 < 256) (hn : In32 n) :
  (b0 + b1 * 256 + b2 * 65536 + b3 * 16777216 = n) ↔ [b0,b1,b2,b3] = le4 n := by
 rw [le4_val hn.1 hn.2]
 constructor
 ·intro h
  obtain ⟨rfl,rfl,rfl,rfl⟩ := rd_fwd h0 h1 h2 h
  rfl
 ·intro h
  injection h with a h;injection h with b h;injection h with d h;injection h with e h
  have f1 := Int.mul_ediv_add_emod n 256
  have f2 := Int.mul_ediv_add_emod (n / 256) 256
  have f3 := Int.mul_ediv_add_emod (n / 65536) 256
  have g1 : n / 256 / 256 = n / 65536 := Int.ediv_ediv_of_nonneg (by decide)
  have g2 : n / 65536 / 256 = n / 16777216 := Int.ediv_ediv_of_nonneg (by decide)
  rw [g1] at f2;rw [g2] at f3
  exact Int.le_antisymm (κ7 [_,_,_,_,_,_,_,_,_,_,_] [] (.le (.a (.a (.a ξ0 (.r ξ1 256)) (.r ξ2 65536)) (.r ξ3 16777216)) ξ4) (.eq (.a (.m 256 ξ5) ξ6) ξ7) (.eq (.a (.m 256 ξ7) (.v 8)) (.v 9)) (.eq (.a (.m 256 (.v 9)) (.v 10)) ξ4) (.eq ξ3 ξ5) (.eq ξ2 ξ6) (.eq ξ1 (.v 8)) (.eq ξ0 (.v 10)) [1,65536,256,1,16777216,65536,256,1] f3 f2 f1 e d b a rfl) (κ7 [_,_,_,_,_,_,_,_,_,_,_] [] (.le ξ0 (.a (.a (.a ξ1 (.r ξ2 256)) (.r ξ3 65536)) (.r ξ4 16777216))) (.eq (.a (.m 256 ξ5) ξ6) ξ7) (.eq (.a (.m 256 ξ7) (.v 8)) (.v 9)) (.eq (.a (.m 256 (.v 9)) (.v 10)) ξ0) (.eq ξ4 ξ5) (.eq ξ3 ξ6) (.eq ξ2 (.v 8)) (.eq ξ1 (.v 10)) [1,-65536,-256,-1,-16777216,-65536,-256,-1] f3 f2 f1 e d b a rfl)
set_option maxHeartbeats 4000000
section
variable {c : Cx} {σ : St} {dp un : Nat} {Φ : AV → St → Prop}
theorem table_ok  (hK : c.K = mk0.heap_1 c.w.params) (hr : dp + 1 < 900)  (h : ∀ l,Φ (.ref l) ⟨σ.loc,(l,.listQ (crcTab.map AV.int)) :: σ.hp⟩) : Enters c dp un 103 [] σ Φ := by
 refine Enters.post ?_
 refine Enters.of (args := []) (more := ["table","c","half","low"]) (G := [("CRC_POLY",.int 2197175160),("range",.raw (.type "range"))]) (foot := []) (rest := σ.hp) (by rw [hK];k_is) (by rw [hK];k_is) (room hr) rfl (fun vs e => by have e := List.length_eq_zero_iff.mp e;subst e;rfl) (by decide) (by rfl) (by rfl) rfl rfl rfl (by rw [hK];exact (ϰg (gf_CRC_POLY _) (ϰg (gf_range _) ϰD))) (by rfl) (List.Perm.refl _) ?_
 intro c' I
 have F : Fix mk0.heap_1 c' 0 := I.fix hK (by exact δb hr rfl)
 have hG := I.glob
 have hcb : c'.cb = c.cb := I.cb
 have Fd := F.dp
 show WSs c' _ ⟨[("table",none),("c",none),("half",none),("low",none)],_⟩ _
 refine' asn ?_ rfl;refine' ϰc ?_;refine' ϰF ?_;refine' ϰz (.c .i .n rfl) ?_;refine' ϱr (zl rfl) (fun _ => ?_)
 dsimp only [cA,nA];refine' ϰi ?_;refine' WBin.mulL P0 (by decide) (by decide) (fun _ => ?_);dsimp only [cA,nA];refine' setN S0 ?_;refine' asg .i S1 rfl ?_
 refine' asg .i S2 rfl ?_;refine' ϰh ?_;rotate_left
 rename_i l0 D
 refine W.quiet (l := D) (as := _) (rest := _) (Pick.head _) ?_
 refine ϰab (ι := Nat) (P := fun k => k ≤ 4) (μ := fun k => 4 - k) (I := fun k => ⟨[("table",some (.ref D)),("c",some (.int (tc k))),("half",some (.int (th k))),("low",none)],[(D,.listQ ((tbl k).map AV.int))]⟩) 0 (by decide) ⟨LocLe.refl _,Sel.cons (Pick.head _) (Sel.nil _)⟩ ?_
 intro k hk
 have hk' : k = 0 ∨ k = 1 ∨ k = 2 ∨ k = 3 ∨ k = 4 := by omega
 rcases hk' with rfl | rfl | rfl | rfl | rfl
 ·show WT c' _ ⟨[("table",some (.ref D)),("c",some (.int 1)),("half",some (.int 8)),("low",none)],[(D,.listQ ((tbl 0).map AV.int))]⟩ _
  refine' ϰU (.gt (.nm G2) .i) ?_;refine' qD (fun hc => ?_) (fun hc => (by exfalso;exact β1 [] [] (.nlt (.n 0) (.n 8)) hc rfl));refine' itc (.vi (.band (.nm G1) .i) rfl) ?_
  refine' qD (fun hc => ?_) (fun hc => (by exfalso;revert hc;decide));refine' asn ?_ rfl;refine' ϰc ?_;refine' ϰc ?_
  refine' ϰa G1 ?_;refine' ϰi ?_;refine' ϰaB ?_ ?_;decide;refine' ϱc hG M0 ?_;refine' ϱN ?_;refine' setN S1 ?_
  dsimp only [cA,nA];refine' ϰf ?_;refine' nx ?_;refine' ϱP ?_ (by intro _;rfl);refine' ϰr hG M1 ?_ rfl;refine' ϰe ?_ rfl
  refine' ϰi ?_;refine' ϰe ?_ rfl;refine' ϰi ?_;refine' ϰe ?_ rfl;refine' ϰc ?_;refine' ϰi ?_;refine' ϰa G2 ?_
  refine' ϰS ?_ ?_ ?_;exact Nat.le_of_ble_eq_true rfl;exact Nat.le_of_ble_eq_true rfl;refine' ϰl ?_;refine' ϱY (by exact fun hq => β1 [] [] (.eq (.m 2 (.n 8)) (.n 0)) hq rfl) (by exact Nat.le_of_ble_eq_true rfl) (fun _ => ?_);dsimp only [cA,nA];rotate_left
  rename_i r
  refine ForOK.range (ι := Unit) 1 (P := fun _ _ => True) (J := fun i _ => ⟨[("table",some (.ref D)),("c",some (.int 2197175160)),("half",some (.int 8)),("low",none)],[(D,.listQ ((tabIn 8 2197175160 i (tbl 0)).map AV.int))]⟩) () P0 rfl rfl trivial ⟨LocLe.refl _,Sel.cons (Pick.tail _ (Pick.head _)) (Sel.nil _)⟩ ?_ ?_
  ·intro i d hi _
   have hl : (tabIn 8 2197175160 i (tbl 0)).length = 16 := ϱE _ _ _ _
   refine' ϱh S3 ?_;dsimp only [cA,nA];refine' ϰh ?_;refine' WS.setInt ?_ rfl;refine' ϰc ?_;refine' ϰI ?_;refine' ϰa G0 ?_
   refine' ϰa G3 ?_;refine' ϱo (d := (0:Int)) P0 (fun _ _ => rfl) ?_ ?_ ?_ ?_;omega;omega;exact δN hl rfl;refine' ϰa G1 ?_
   refine' ϱN ?_;refine' ϰa G0 ?_;refine' ϱQ (.add (.nm G3) (.nm G2)) ?_;refine' setIK rfl rfl rfl P0 ?_ ?_ ?_ ?_;omega;omega;exact δN hl rfl
   refine' nn ?_;rotate_left
   refine ⟨(),trivial,?_⟩
   exact ⟨LM 8 _,Sel.cons (Pick.head _) (Sel.nil _)⟩
  ·intro d _
   refine' nx ?_;refine' ϱf G2 ?_;refine' ϰi ?_;refine' ϰbg ?_ ?_;decide;refine' setN S2 ?_;dsimp only [cA,nA];refine' ϰf ?_;rotate_left
   exact ⟨1,by decide,by decide,⟨LocLe.refl _,Sel.cons (Pick.head _) (Sel.nil _)⟩⟩
 ·show WT c' _ ⟨[("table",some (.ref D)),("c",some (.int 2197175160)),("half",some (.int 4)),("low",none)],[(D,.listQ ((tbl 1).map AV.int))]⟩ _
  refine' ϰU (.gt (.nm G2) .i) ?_;refine' qD (fun hc => ?_) (fun hc => (by exfalso;exact β1 [] [] (.nlt (.n 0) (.n 4)) hc rfl));refine' itc (.vi (.band (.nm G1) .i) rfl) ?_
  refine' qD (fun hc => (by exfalso;revert hc;decide)) (fun hc => ?_);refine' ϰh ?_;refine' ϱf G1 ?_;refine' ϰi ?_
  refine' ϰbg ?_ ?_;decide;refine' setN S1 ?_;dsimp only [cA,nA];refine' ϰf ?_;refine' nx ?_;refine' ϱP ?_ (by intro _;rfl)
  refine' ϰr hG M1 ?_ rfl;refine' ϰe ?_ rfl;refine' ϰi ?_;refine' ϰe ?_ rfl;refine' ϰi ?_;refine' ϰe ?_ rfl
  refine' ϰc ?_;refine' ϰi ?_;refine' ϰa G2 ?_;refine' ϰS ?_ ?_ ?_;exact Nat.le_of_ble_eq_true rfl;exact Nat.le_of_ble_eq_true rfl;refine' ϰl ?_
  refine' ϱY (by exact fun hq => β1 [] [] (.eq (.m 2 (.n 4)) (.n 0)) hq rfl) (by exact Nat.le_of_ble_eq_true rfl) (fun _ => ?_);dsimp only [cA,nA];rotate_left
  rename_i r
  refine ForOK.range (ι := Unit) 2 (P := fun _ _ => True) (J := fun i _ => ⟨[("table",some (.ref D)),("c",some (.int 1098587580)),("half",some (.int 4)),("low",none)],[(D,.listQ ((tabIn 4 1098587580 i (tbl 1)).map AV.int))]⟩) () P0 rfl rfl trivial ⟨LocLe.refl _,Sel.cons (Pick.tail _ (Pick.head _)) (Sel.nil _)⟩ ?_ ?_
  ·intro i d hi _
   have hl : (tabIn 4 1098587580 i (tbl 1)).length = 16 := ϱE _ _ _ _
   refine' ϱh S3 ?_;dsimp only [cA,nA];refine' ϰh ?_;refine' WS.setInt ?_ rfl;refine' ϰc ?_;refine' ϰI ?_;refine' ϰa G0 ?_
   refine' ϰa G3 ?_;refine' ϱo (d := (0:Int)) P0 (fun _ _ => rfl) ?_ ?_ ?_ ?_;omega;omega;exact δN hl rfl;refine' ϰa G1 ?_
   refine' ϱN ?_;refine' ϰa G0 ?_;refine' ϱQ (.add (.nm G3) (.nm G2)) ?_;refine' setIK rfl rfl rfl P0 ?_ ?_ ?_ ?_;omega;omega;exact δN hl rfl
   refine' nn ?_;rotate_left
   refine ⟨(),trivial,?_⟩
   exact ⟨LM 8 _,Sel.cons (Pick.head _) (Sel.nil _)⟩
  ·intro d _
   refine' nx ?_;refine' ϱf G2 ?_;refine' ϰi ?_;refine' ϰbg ?_ ?_;decide;refine' setN S2 ?_;dsimp only [cA,nA];refine' ϰf ?_;rotate_left
   exact ⟨2,by decide,by decide,⟨LocLe.refl _,Sel.cons (Pick.head _) (Sel.nil _)⟩⟩
 ·show WT c' _ ⟨[("table",some (.ref D)),("c",some (.int 1098587580)),("half",some (.int 2)),("low",none)],[(D,.listQ ((tbl 2).map AV.int))]⟩ _
  refine' ϰU (.gt (.nm G2) .i) ?_;refine' qD (fun hc => ?_) (fun hc => (by exfalso;exact β1 [] [] (.nlt (.n 0) (.n 2)) hc rfl));refine' itc (.vi (.band (.nm G1) .i) rfl) ?_
  refine' qD (fun hc => (by exfalso;revert hc;decide)) (fun hc => ?_);refine' ϰh ?_;refine' ϱf G1 ?_;refine' ϰi ?_
  refine' ϰbg ?_ ?_;decide;refine' setN S1 ?_;dsimp only [cA,nA];refine' ϰf ?_;refine' nx ?_;refine' ϱP ?_ (by intro _;rfl)
  refine' ϰr hG M1 ?_ rfl;refine' ϰe ?_ rfl;refine' ϰi ?_;refine' ϰe ?_ rfl;refine' ϰi ?_;refine' ϰe ?_ rfl
  refine' ϰc ?_;refine' ϰi ?_;refine' ϰa G2 ?_;refine' ϰS ?_ ?_ ?_;exact Nat.le_of_ble_eq_true rfl;exact Nat.le_of_ble_eq_true rfl;refine' ϰl ?_
  refine' ϱY (by exact fun hq => β1 [] [] (.eq (.m 2 (.n 2)) (.n 0)) hq rfl) (by exact Nat.le_of_ble_eq_true rfl) (fun _ => ?_);dsimp only [cA,nA];rotate_left
  rename_i r
  refine ForOK.range (ι := Unit) 4 (P := fun _ _ => True) (J := fun i _ => ⟨[("table",some (.ref D)),("c",some (.int 549293790)),("half",some (.int 2)),("low",none)],[(D,.listQ ((tabIn 2 549293790 i (tbl 2)).map AV.int))]⟩) () P0 rfl rfl trivial ⟨LocLe.refl _,Sel.cons (Pick.tail _ (Pick.head _)) (Sel.nil _)⟩ ?_ ?_
  ·intro i d hi _
   have hl : (tabIn 2 549293790 i (tbl 2)).length = 16 := ϱE _ _ _ _
   refine' ϱh S3 ?_;dsimp only [cA,nA];refine' ϰh ?_;refine' WS.setInt ?_ rfl;refine' ϰc ?_;refine' ϰI ?_;refine' ϰa G0 ?_
   refine' ϰa G3 ?_;refine' ϱo (d := (0:Int)) P0 (fun _ _ => rfl) ?_ ?_ ?_ ?_;omega;omega;exact δN hl rfl;refine' ϰa G1 ?_
   refine' ϱN ?_;refine' ϰa G0 ?_;refine' ϱQ (.add (.nm G3) (.nm G2)) ?_;refine' setIK rfl rfl rfl P0 ?_ ?_ ?_ ?_;omega;omega;exact δN hl rfl
   refine' nn ?_;rotate_left
   refine ⟨(),trivial,?_⟩
   exact ⟨LM 8 _,Sel.cons (Pick.head _) (Sel.nil _)⟩
  ·intro d _
   refine' nx ?_;refine' ϱf G2 ?_;refine' ϰi ?_;refine' ϰbg ?_ ?_;decide;refine' setN S2 ?_;dsimp only [cA,nA];refine' ϰf ?_;rotate_left
   exact ⟨3,by decide,by decide,⟨LocLe.refl _,Sel.cons (Pick.head _) (Sel.nil _)⟩⟩
 ·show WT c' _ ⟨[("table",some (.ref D)),("c",some (.int 549293790)),("half",some (.int 1)),("low",none)],[(D,.listQ ((tbl 3).map AV.int))]⟩ _
  refine' ϰU (.gt (.nm G2) .i) ?_;refine' qD (fun hc => ?_) (fun hc => (by exfalso;exact β1 [] [] (.nlt (.n 0) (.n 1)) hc rfl));refine' itc (.vi (.band (.nm G1) .i) rfl) ?_
  refine' qD (fun hc => (by exfalso;revert hc;decide)) (fun hc => ?_);refine' ϰh ?_;refine' ϱf G1 ?_;refine' ϰi ?_
  refine' ϰbg ?_ ?_;decide;refine' setN S1 ?_;dsimp only [cA,nA];refine' ϰf ?_;refine' nx ?_;refine' ϱP ?_ (by intro _;rfl)
  refine' ϰr hG M1 ?_ rfl;refine' ϰe ?_ rfl;refine' ϰi ?_;refine' ϰe ?_ rfl;refine' ϰi ?_;refine' ϰe ?_ rfl
  refine' ϰc ?_;refine' ϰi ?_;refine' ϰa G2 ?_;refine' ϰS ?_ ?_ ?_;exact Nat.le_of_ble_eq_true rfl;exact Nat.le_of_ble_eq_true rfl;refine' ϰl ?_
  refine' ϱY (by exact fun hq => β1 [] [] (.eq (.m 2 (.n 1)) (.n 0)) hq rfl) (by exact Nat.le_of_ble_eq_true rfl) (fun _ => ?_);dsimp only [cA,nA];rotate_left
  rename_i r
  refine ForOK.range (ι := Unit) 8 (P := fun _ _ => True) (J := fun i _ => ⟨[("table",some (.ref D)),("c",some (.int 274646895)),("half",some (.int 1)),("low",none)],[(D,.listQ ((tabIn 1 274646895 i (tbl 3)).map AV.int))]⟩) () P0 rfl rfl trivial ⟨LocLe.refl _,Sel.cons (Pick.tail _ (Pick.head _)) (Sel.nil _)⟩ ?_ ?_
  ·intro i d hi _
   have hl : (tabIn 1 274646895 i (tbl 3)).length = 16 := ϱE _ _ _ _
   refine' ϱh S3 ?_;dsimp only [cA,nA];refine' ϰh ?_;refine' WS.setInt ?_ rfl;refine' ϰc ?_;refine' ϰI ?_;refine' ϰa G0 ?_
   refine' ϰa G3 ?_;refine' ϱo (d := (0:Int)) P0 (fun _ _ => rfl) ?_ ?_ ?_ ?_;omega;omega;exact δN hl rfl;refine' ϰa G1 ?_
   refine' ϱN ?_;refine' ϰa G0 ?_;refine' ϱQ (.add (.nm G3) (.nm G2)) ?_;refine' setIK rfl rfl rfl P0 ?_ ?_ ?_ ?_;omega;omega;exact δN hl rfl
   refine' nn ?_;rotate_left
   refine ⟨(),trivial,?_⟩
   exact ⟨LM 8 _,Sel.cons (Pick.head _) (Sel.nil _)⟩
  ·intro d _
   refine' nx ?_;refine' ϱf G2 ?_;refine' ϰi ?_;refine' ϰbg ?_ ?_;decide;refine' setN S2 ?_;dsimp only [cA,nA];refine' ϰf ?_;rotate_left
   exact ⟨4,by decide,by decide,⟨LocLe.refl _,Sel.cons (Pick.head _) (Sel.nil _)⟩⟩
 ·show WT c' _ ⟨[("table",some (.ref D)),("c",some (.int 274646895)),("half",some (.int 0)),("low",none)],[(D,.listQ ((tbl 4).map AV.int))]⟩ _
  refine' ϰU (.gt (.nm G2) .i) ?_;refine' qD (fun hc => (by exfalso;exact β1 [] [] (.lt (.n 0) (.n 0)) hc rfl)) (fun hc => ?_);refine' nx ?_;refine' ϰP ?_;refine' ϰa G0 ?_
  refine' ϰm ?_;refine' ϰx ?_;rotate_left
  exact ⟨_,Le.refl _,h D⟩
end
set_option maxHeartbeats 4000000
section
variable {c : Cx} {σ : St} {dp un : Nat} {Φ : AV → St → Prop}
theorem bcl : List.length crcTab ≤ 16777216 := by decide
theorem b15 {x : Int} : Builtin.bitAnd x 15 < (crcTab.length : Int) := by have := (bitAnd_range x (y := 15) (by decide)).2;have e : (crcTab.length : Int) = 16 := rfl;exact κ2 [_] [_] (.lt ξ0 (.c ν0)) (.eq (.c ν0) (.n 16)) (.le ξ0 (.n 15)) [1,-1,1] e this rfl
theorem crc_ok {d : Y} (hK : c.K = mk0.heap_1 c.w.params) (hr : dp + 2 < 900)  (h : Φ (.int (crcF d)) σ) : Enters c dp un 111 [.bytes d] σ Φ := by
 refine Enters.post ?_
 refine Enters.ofB (args := [("data",(.bytes d)),("start",(.int 0))]) (more := ["table","c","octet"]) (G := [("make_crc_table",.raw (.ref 103)),("MAX_32",.int 4294967295)]) (foot := []) (rest := σ.hp) (by rw [hK];k_is) (by rw [hK];k_is) (room hr) (fun T s vs X r => by
  obtain ⟨v,rfl,hv⟩ := r.one
  exact ⟨[("data",v),("start",.int 0 317)],BindsTo.of_defaults rfl (X 104 _ (by rw [hK];k_is)) rfl rfl rfl,by simp only [BRn,BRc];exact ⟨_,_,rfl,hv,_,_,rfl,.of_int,rfl⟩⟩) (by show List.Nodup (["data","start","table","c","octet"] : List Str);decide) (by rfl) (by rfl) rfl rfl rfl (by rw [hK];exact (ϰg (gf_make_crc_table _) (ϰg (gf_MAX_32 _) ϰD))) (by rfl) (List.Perm.refl _) ?_
 intro c' I
 have F : Fix mk0.heap_1 c' 1 := I.fix hK (by exact δb hr rfl)
 have hG := I.glob
 have hcb : c'.cb = c.cb := I.cb
 have Fd := F.dp
 show WSs c' _ ⟨[("data",some (.bytes d)),("start",some (.int 0)),("table",none),("c",none),("octet",none)],_⟩ _
 refine' asn ?_ rfl;refine' ϰs hG M0 .n rfl ?_;refine' ϰw ?_;refine' table_ok F.K (by exact δa Fd rfl) (fun l => ?_);dsimp only [cA,nA];refine' setN S2 ?_
 refine' asg (.bxor (.nm G1) (.gl hG M1)) S3 rfl ?_;refine' ϰh ?_;refine' ϱP ?_ (by intro _;rfl);refine' ϰa G0 ?_
 rotate_left
 refine ForOK.bytes (ι := Unit) (P := fun _ _ => True) (J := fun i _ => ⟨[("data",some (.bytes d)),("start",some (.int 0)),("table",some (.ref l)),("c",some (.int ((d.take i).foldl crcStep 4294967295))),("octet",none)],[(l,.listQ (crcTab.map AV.int))]⟩) () trivial ⟨LocLe.refl _,Sel.refl _⟩ ?_ ?_
 ·intro i _ hi _ h0 h1
  generalize hc0 : (d.take i).foldl crcStep 4294967295 = c0
  refine' ϱh S4 ?_;dsimp only [cA,nA];refine' ϰh ?_;refine' ϱf G3 ?_;refine' ϰa G4 ?_;refine' WIn.bxor ?_;refine' setN S3 ?_
  dsimp only [cA,nA];refine' asn ?_ rfl;refine' ϰc ?_;refine' ϰc ?_;refine' ϰa G3 ?_;refine' ϰi ?_;refine' ϰaB ?_ ?_;decide
  refine' ϰI ?_;refine' ϰa G2 ?_;refine' ϱQ (.band (.nm G3) .i) ?_;refine' ϱo (d := (0:Int)) P0 (fun _ _ => rfl) ?_ ?_ ?_ ?_
  exact (bitAnd_range _ (by decide)).1;exact b15;exact bcl;refine' ϱN ?_;refine' setN S3 ?_;dsimp only [cA,nA];refine' asn ?_ rfl
  refine' ϰc ?_;refine' ϰc ?_;refine' ϰa G3 ?_;refine' ϰi ?_;refine' ϰaB ?_ ?_;decide;refine' ϰI ?_
  refine' ϰa G2 ?_;refine' ϱQ (.band (.nm G3) .i) ?_;refine' ϱo (d := (0:Int)) P0 (fun _ _ => rfl) ?_ ?_ ?_ ?_
  exact (bitAnd_range _ (by decide)).1;exact b15;exact bcl;refine' ϱN ?_;refine' setN S3 ?_;dsimp only [cA,nA];refine' ϰf ?_;rotate_left
  refine ⟨(),trivial,?_⟩
  have e : (d.take (i + 1)).foldl crcStep 4294967295 = crcStep c0 d[i] := by
   rw [List.take_add_one,List.foldl_append,hc0,List.getElem?_eq_getElem hi];rfl
  dsimp only
  rw [e]
  exact ⟨.keep _ (.keep _ (.keep _ (.keep _ (.drop _ _ .nil)))),Sel.refl _⟩
 ·intro _ _
  rw [List.take_length]
  refine' nx ?_;refine' ϰP ?_;refine' ϱQ (.bxor (.nm G3) (.gl hG M1)) ?_;refine' ϰm ?_;refine' ϰx ?_;rotate_left
  exact ⟨_,Le.pre _ _ _,h⟩
theorem check_ok {d : Y} {k : Int} (hK : c.K = mk0.heap_1 c.w.params) (hr : dp + 3 < 900) (hk : k = 1 ∨ k = 2) (hz : d.length ≤ 1000000) (h : Φ (.int (ckF k d)) σ) : Enters c dp un 125 [.int k,.bytes d] σ Φ := by
 refine Enters.post ?_
 refine Enters.of (args := ["kind","data"]) (more := []) (G := [("CHECK_CRC",.int 1),("CHECK_SUM",.int 2),("mask",.raw (.ref 118)),("crc32c",.raw (.ref 111)),("sum",.raw (.builtin "sum")),("len",.raw (.builtin "len")),("MAX_32",.int 4294967295)]) (foot := []) (rest := σ.hp) (by rw [hK];k_is) (by rw [hK];k_is) (room hr) rfl (fun vs e => by obtain ⟨v0,v1,rfl⟩ := len2 e;rfl) (by decide) (by rfl) (by rfl) rfl rfl rfl (by rw [hK];exact (ϰg (gf_CHECK_CRC _) (ϰg (gf_CHECK_SUM _) (ϰg (gf_mask _) (ϰg (gf_crc32c _) (ϰg (gf_sum _) (ϰg (ϰaD _) (ϰg (gf_MAX_32 _) ϰD)))))))) (by rfl) (List.Perm.refl _) ?_
 intro c' I
 have F : Fix mk0.heap_1 c' 2 := I.fix hK (by exact δb hr rfl)
 have hG := I.glob
 have hcb : c'.cb = c.cb := I.cb
 have Fd := F.dp
 show WSs c' _ ⟨[("kind",some (.int k)),("data",some (.bytes d))],_⟩ _
 refine' itc (.eq (.nm G0) (.gl hG M0)) ?_;refine' qD (fun hc => ?_) (fun hc => ?_);refine' ϰh ?_;refine' ϰP ?_
 refine' ϰr hG M2 ?_ rfl;refine' ϰe ?_ rfl;refine' ϰs hG M3 (.c (.nm G1) .n rfl) rfl ?_;refine' ϰw ?_
 refine' Enters.byt d List.mem_cons_self (fun hd => ?_);refine' crc_ok F.K (by exact δa Fd rfl) ?_;refine' ϰl ?_;refine' ϰw ?_
 refine' mask_ok F.K (by exact δa Fd rfl) (by have := crcF_in hd;unfold In32 at this;exact δq this.2 this.1 rfl) ?_;refine' ϰm ?_;refine' ϰm ?_;refine' ϰx ?_
 rotate_left;refine' ϰf ?_;refine' ϰd ?_;refine' itc (.eq (.nm G0) (.gl hG M1)) ?_
 refine' qD (fun hc => ?_) (fun hc => (by exfalso;omega));refine' ϰh ?_;refine' ϰP ?_;refine' ϰc ?_;refine' ϰc ?_
 refine' ϰc ?_;refine' ϰc ?_;refine' ϰs hG M4 (.c (.nm G1) .n rfl) rfl ?_;refine' WVs.sum ?_ (fun _ _ => ?_);exact δc hz rfl;refine' ϰi ?_
 refine' ϰS ?_ ?_ ?_;exact κ3 [_] [_,_] (.Lt ν0 (.n 18446744073709551616)) (.Le ν1 (.n 1000000)) (.le ξ0 (.m 255 (.c ν1))) (.eq (.c ν0) ξ0) [1,255,1,1] hz (by assumption) (Int.natAbs_of_nonneg (δj (by assumption) rfl)) rfl;exact Nat.le_of_ble_eq_true rfl;refine' ϰc ?_;refine' ϰs hG M5 (.c (.nm G1) .n rfl) rfl ?_;refine' ϰv ?_ ?_;exact δc hz rfl
 refine' ϰi ?_;refine' ϰS ?_ ?_ ?_;exact ω2 [] [_,_] (.Lt ν0 (.n 18446744073709551616)) (.Le ν1 (.n 1000000)) (.eq (.c ν0) (.c ν1)) hz (Int.natAbs_of_nonneg (δz _)) rfl;exact Nat.le_of_ble_eq_true rfl;refine' ϰX ?_;refine' ϰi ?_;refine' ϰX ?_;refine' ϱc hG M6 ?_
 refine' ϰaM ?_;refine' ϰm ?_;refine' ϰm ?_;refine' ϰx ?_;rotate_left
 ·subst hc;exact ⟨_,Le.pre _ _ _,h⟩
 ·have e : k = 2 := by exact η1 [_] [] (.eq ξ0 (.n 2)) (.eq ξ0 (.n 2)) [1,-1] [1,1] hc rfl
  subst e;exact ⟨_,Le.pre _ _ _,h⟩
end
set_option maxHeartbeats 4000000
section
variable {c : Cx} {σ : St} {dp un : Nat} {Φ : AV → St → Prop}
theorem ckF0 (k : Int) (d : Y) : 0 ≤ ckF k d := (ckF_in k d).1
theorem ckF1 (k : Int) (d : Y) : ckF k d ≤ 4294967295 := by have := (ckF_in k d).2;exact δp this rfl
theorem ϰaF {d : Y} {k k2 : Int} (hK : c.K = mk0.heap_1 c.w.params) (hr : dp + 4 < 900) (hk0 : 0 ≤ k) (hk1 : k < 256) (hk : k2 = 1 ∨ k2 = 2) (hz : d.length ≤ 60000) (h : Φ (.bytes (fragY k d k2)) σ) : Enters c dp un 146 [.int k,.bytes d,.int k2] σ Φ := by
 refine Enters.post ?_
 refine Enters.of (args := ["kind","data","check"]) (more := ["size","body"]) (G := [("len",.raw (.builtin "len")),("bytes",.raw (.type "bytes")),("put_fixed32",.raw (.ref 89)),("checksum",.raw (.ref 125))]) (foot := []) (rest := σ.hp) (by rw [hK];k_is) (by rw [hK];k_is) (room hr) rfl (fun vs e => by obtain ⟨v0,v1,v2,rfl⟩ := len3 e;rfl) (by decide) (by rfl) (by rfl) rfl rfl rfl (by rw [hK];exact (ϰg (ϰaD _) (ϰg (ϰag _) (ϰg (gf_put_fixed32 _) (ϰg (gf_checksum _) ϰD))))) (by rfl) (List.Perm.refl _) ?_
 intro c' I
 have F : Fix mk0.heap_1 c' 3 := I.fix hK (by exact δb hr rfl)
 have hG := I.glob
 have hcb : c'.cb = c.cb := I.cb
 have Fd := F.dp
 show WSs c' _ ⟨[("kind",some (.int k)),("data",some (.bytes d)),("check",some (.int k2)),("size",none),("body",none)],_⟩ _
 refine' asn ?_ rfl;refine' ϰs hG M0 (.c (.nm G1) .n rfl) rfl ?_;refine' ϰv ?_ ?_;exact δc hz rfl;refine' setN S3 ?_;dsimp only [cA,nA];refine' asn ?_ rfl
 refine' ϰc ?_;refine' ϰr hG M1 ?_ rfl;refine' ϰe ?_ rfl;refine' ϰF ?_;refine' ϰz (.c (.nm G0) .n rfl) ?_
 refine' ϱr (zl rfl) (fun _ => ?_);dsimp only [cA,nA];refine' ϰl ?_;refine' bytes1 P0 ?_ ?_ ?_;exact δj hk0 rfl;exact δi hk1 rfl;refine' ϰa G1 ?_
 refine' ϰN ?_ ?_;(focus (simp only [List.length_append,List.length_cons,List.length_nil,ϱa];exact ω1 [] [_] (.Le (.a (.a (.n 0) (.n 1)) ν0) (.n 16777216)) (.Le ν0 (.n 60000)) hz rfl));refine' setN S4 ?_
 dsimp only [cA,nA];refine' ϰh ?_;refine' ϰP ?_;refine' ϰc ?_;refine' ϰc ?_;refine' ϰr hG M2 ?_ rfl;refine' ϰe ?_ rfl
 refine' ϰs hG M3 (.c (.nm G2) (.c (.nm G4) .n rfl) rfl) rfl ?_;refine' ϰw ?_;refine' check_ok F.K (by exact δa Fd rfl) hk ?_ ?_
 (focus (simp only [List.length_append,List.length_cons,List.length_nil,ϱa];exact ω1 [] [_] (.Le (.a ν0 (.n 1)) (.n 1000000)) (.Le ν0 (.n 60000)) hz rfl));refine' ϰl ?_;refine' ϰw ?_
 refine' put_ok F.K (by exact δa Fd rfl) ?_ ?_ ?_;exact ckF0 _ _;exact ckF1 _ _;refine' ϰr hG M1 ?_ rfl;refine' ϰe ?_ rfl;refine' ϰF ?_
 refine' ϰe ?_ rfl;refine' ϰc ?_;refine' ϰa G3 ?_;refine' ϰi ?_;refine' ϰC ?_ ?_;decide;refine' ϰe ?_ rfl
 refine' ϰc ?_;refine' ϰa G3 ?_;refine' ϰi ?_;refine' ϱx ?_ ?_ ?_;decide;decide;refine' ϰl ?_
 refine' ϱr (zl rfl) (fun _ => ?_);dsimp only [cA,nA];refine' ϰl ?_;refine' bytes2 P0 ?_ ?_ ?_ ?_ ?_;exact δn rfl;exact δm rfl;exact κ2 [_,_] [_] (.le (.n 0) ξ0) (.eq (.a (.m 256 ξ0) ξ1) (.c ν0)) (.lt ξ1 (.n 256)) [256,-1,1] (Int.mul_ediv_add_emod _ _) (Int.emod_lt_of_pos _ (by decide)) rfl;exact κ3 [_,_] [_] (.lt ξ0 (.n 256)) (.Le ν0 (.n 60000)) (.eq (.a (.m 256 ξ0) ξ1) (.c ν0)) (.le (.n 0) ξ1) [256,1,1,1] hz (Int.mul_ediv_add_emod _ _) (Int.emod_nonneg _ (by decide)) rfl
 refine' ϰN ?_ ?_;(focus (simp only [List.length_append,List.length_cons,List.length_nil,ϱa];exact κ0 [] [] (.Le (.a (.n 4) (.a (.a (.n 0) (.n 1)) (.n 1))) (.n 16777216)) [1] rfl));refine' ϰa G4 ?_
 refine' ϰN ?_ ?_;(focus (simp only [List.length_append,List.length_cons,List.length_nil,ϱa];exact ω1 [] [_] (.Le (.a (.a (.n 4) (.a (.a (.n 0) (.n 1)) (.n 1))) (.a ν0 (.n 1))) (.n 16777216)) (.Le ν0 (.n 60000)) hz rfl));refine' ϰm ?_
 refine' ϰx ?_;rotate_left
 exact ⟨_,Le.pre _ _ _,h⟩
end
structure RS where
 at_ : Int
 be : Int
 short : Bool
 skipped : Int
 reasons : List AV
 torn : Bool
 good : Int
 breaks : Int
noncomputable abbrev rsF (d : Y) (block check : Int) (rl : Addr) (R : RS) : List (Str × AV) :=
 [("data",.bytes d),("block",.int block),("check",.int check),("at",.int R.at_),("block_end",.int R.be),("short",.bool R.short),("skipped",.int R.skipped),("reasons",.ref rl),("torn",.bool R.torn),("good_length",.int R.good),("breaks",.int R.breaks)]
noncomputable def turnE (d : Y) (block : Int) (R : RS) : Int := if R.be + block < (d.length : Int) then R.be + block else (d.length : Int)
noncomputable def turnF (d : Y) (block : Int) (R : RS) : RS := { R with at_ := R.be,be := turnE d block R,short := decide (turnE d block R - R.be < block) }
noncomputable def dropF (R : RS) (n : Int) (why : AV) : RS := { R with skipped := R.skipped + n,reasons := R.reasons ++ [why] }
noncomputable def fragEnd (R : RS) : (Int × Y) × RS := ((-1,[]),if R.at_ < R.be then { R with torn := true,at_ := R.be } else R)
noncomputable def fragB (d : Y) (check : Int) (R : RS) : (Int × Y) × RS :=
 if R.be - R.at_ < 7 + (d.getD (R.at_ + 4).toNat 0 + d.getD (R.at_ + 5).toNat 0 * 256) then
  if R.short then ((-1,[]),{ R with at_ := R.be,torn := true })
  else ((-2,[]),dropF { R with at_ := R.be,breaks := R.breaks + 1 } (R.be - R.at_) (.str "bad record length"))
 else if d.getD (R.at_ + 6).toNat 0 = 0 ∧ d.getD (R.at_ + 4).toNat 0 + d.getD (R.at_ + 5).toNat 0 * 256 = 0 then ((-2,[]),{ R with at_ := R.be,breaks := R.breaks + 1 })
 else if rd4 d R.at_ ≠ ckF check (cut d (some (R.at_ + 7 - 1)) (some (R.at_ + 7 + (d.getD (R.at_ + 4).toNat 0 + d.getD (R.at_ + 5).toNat 0 * 256)))) then
  ((-2,[]),dropF { R with at_ := R.be,breaks := R.breaks + 1 } (R.be - R.at_) (.str "checksum mismatch"))
 else ((d.getD (R.at_ + 6).toNat 0,cut (cut d (some (R.at_ + 7 - 1)) (some (R.at_ + 7 + (d.getD (R.at_ + 4).toNat 0 + d.getD (R.at_ + 5).toNat 0 * 256)))) (some 1) none),
  { R with at_ := R.at_ + 7 + (d.getD (R.at_ + 4).toNat 0 + d.getD (R.at_ + 5).toNat 0 * 256) })
noncomputable def fragC (d : Y) (check : Int) (R : RS) : (Int × Y) × RS := if R.be - R.at_ < 7 then fragEnd R else fragB d check R
noncomputable def fragF (d : Y) (block check : Int) (R : RS) : (Int × Y) × RS := if R.be - R.at_ < 7 ∧ R.short = false then fragC d check (turnF d block R) else fragC d check R
noncomputable abbrev szR (d : Y) (R : RS) : Int := d.getD (R.at_ + 4).toNat 0 + d.getD (R.at_ + 5).toNat 0 * 256
noncomputable abbrev bodyR (d : Y) (R : RS) : Y := cut d (some (R.at_ + 7 - 1)) (some (R.at_ + 7 + szR d R))
section
variable {d : Y} {check : Int} {R : RS}
theorem fragC_end0 (h : R.be - R.at_ < 7) (h1 : R.at_ < R.be) : fragC d check R = ((-1,[]),{ R with torn := true,at_ := R.be }) := by
 unfold fragC;rw [if_pos h];unfold fragEnd;rw [if_pos h1]
theorem fragC_end1 (h : R.be - R.at_ < 7) (h1 : ¬ R.at_ < R.be) : fragC d check R = ((-1,[]),R) := by
 unfold fragC;rw [if_pos h];unfold fragEnd;rw [if_neg h1]
theorem fragC_torn (h : ¬ R.be - R.at_ < 7) (h1 : R.be - R.at_ < 7 + szR d R) (h2 : R.short = true) : fragC d check R = ((-1,[]),{ R with at_ := R.be,torn := true }) := by
 unfold fragC;rw [if_neg h];unfold fragB;rw [if_pos h1,if_pos h2]
theorem fragC_long (h : ¬ R.be - R.at_ < 7) (h1 : R.be - R.at_ < 7 + szR d R) (h2 : R.short = false) : fragC d check R = ((-2,[]),dropF { R with at_ := R.be,breaks := R.breaks + 1 } (R.be - R.at_) (.str "bad record length")) := by
 unfold fragC;rw [if_neg h];unfold fragB;rw [if_pos h1,if_neg (by rw [h2];decide)]
theorem fragC_zero (h : ¬ R.be - R.at_ < 7) (h1 : ¬ R.be - R.at_ < 7 + szR d R) (h2 : d.getD (R.at_ + 6).toNat 0 = 0 ∧ szR d R = 0) : fragC d check R = ((-2,[]),{ R with at_ := R.be,breaks := R.breaks + 1 }) := by
 unfold fragC;rw [if_neg h];unfold fragB;rw [if_neg h1,if_pos h2]
theorem fragC_bad (h : ¬ R.be - R.at_ < 7) (h1 : ¬ R.be - R.at_ < 7 + szR d R) (h2 : ¬ (d.getD (R.at_ + 6).toNat 0 = 0 ∧ szR d R = 0)) (h3 : rd4 d R.at_ ≠ ckF check (bodyR d R)) :
  fragC d check R = ((-2,[]),dropF { R with at_ := R.be,breaks := R.breaks + 1 } (R.be - R.at_) (.str "checksum mismatch")) := by
 unfold fragC;rw [if_neg h];unfold fragB;rw [if_neg h1,if_neg h2,if_pos h3]
theorem fragC_good (h : ¬ R.be - R.at_ < 7) (h1 : ¬ R.be - R.at_ < 7 + szR d R) (h2 : ¬ (d.getD (R.at_ + 6).toNat 0 = 0 ∧ szR d R = 0)) (h3 : ¬ rd4 d R.at_ ≠ ckF check (bodyR d R)) :
  fragC d check R = ((d.getD (R.at_ + 6).toNat 0,cut (bodyR d R) (some 1) none),{ R with at_ := R.at_ + 7 + szR d R }) := by
 unfold fragC;rw [if_neg h];unfold fragB;rw [if_neg h1,if_neg h2,if_neg h3]
end
structure RInv (d : Y) (block : Int) (R : RS) : Prop where
 a0 : 0 ≤ R.at_
 a1 : R.at_ ≤ R.be
 a2 : R.be ≤ d.length
 sz : d.length ≤ 2000
 bl : 8 ≤ block
 bh : block ≤ 65542
theorem turn_inv {d : Y} {block : Int} {R : RS} (h : RInv d block R) : RInv d block (turnF d block R) := by
 obtain ⟨h1,h2,h3,h4,h5,h6⟩ := h
 refine ⟨?_,?_,?_,h4,h5,h6⟩ <;> simp only [turnF,turnE] <;> (try split) <;> omega
theorem turn_short {d : Y} {block : Int} {R : RS} (h : RInv d block R) (q : (turnF d block R).be - (turnF d block R).at_ < 7) : (turnF d block R).short = true := by
 have := h.bl
 simp only [turnF] at q ⊢
 rw [decide_eq_true_eq];exact ω2 [_,_,_] [] (.lt (.s ξ0 ξ1) ξ2) (.le (.n 8) ξ2) (.lt (.s ξ0 ξ1) (.n 7)) this q rfl
theorem frag_start {d : Y} {block check : Int} {R : RS} (h : RInv d block R) (b : Bool) (hb : b = true → R.be - R.at_ < 7 ∧ R.short = false) :
  ∃ R1,(if b = true then turnF d block R else R) = R1 ∧ RInv d block R1 ∧ R1.reasons = R.reasons ∧ (b = true → R1.be - R1.at_ < 7 → R1.short = true) ∧ (b = false → R1 = R) ∧ ((R1.be - R1.at_ < 7 → R1.short = true) → fragF d block check R = fragC d check R1) := by
 cases b with
 | false =>
  refine ⟨R,rfl,h,rfl,(by intro e;cases e),(fun _ => rfl),fun q => ?_⟩
  unfold fragF
  rw [if_neg]
  rintro ⟨q1,q2⟩
  rw [q q1] at q2;cases q2
 | true =>
  refine ⟨turnF d block R,rfl,turn_inv h,rfl,(fun _ => turn_short h),(by intro e;cases e),fun q => ?_⟩
  unfold fragF
  rw [if_pos (hb rfl)]
set_option maxHeartbeats 4000000
section
variable {c : Cx} {σ : St} {dp un : Nat} {Φ : AV → St → Prop}
theorem turn_ok {d : Y} {block check : Int} {x rl : Addr} {R : RS} {rest : List (Addr × AO)} (hK : c.K = mk0.heap_1 c.w.params) (hr : dp + 1 < 900) (hi : RInv d block R) (pk : Pick (x,.inst 233 (rsF d block check rl R)) σ.hp rest) (h : Φ .none ⟨σ.loc,(x,.inst 233 (rsF d block check rl (turnF d block R))) :: rest⟩) : Enters c dp un 216 [.ref x] σ Φ := by
 refine Enters.post ?_
 refine Enters.of (args := ["self"]) (more := []) (G := [("min",.raw (.builtin "min")),("len",.raw (.builtin "len"))]) (foot := [(x,.inst 233 (rsF d block check rl R))]) (rest := rest) (by rw [hK];k_is) (by rw [hK];k_is) (room hr) rfl (fun vs e => by obtain ⟨v0,rfl⟩ := len1 e;rfl) (by decide) (by rfl) (by rfl) rfl rfl rfl (by rw [hK];exact (ϰg (gf_min _) (ϰg (ϰaD _) ϰD))) (by rfl) pk.perm ?_
 intro c' I
 have F : Fix mk0.heap_1 c' 0 := I.fix hK (by exact δb hr rfl)
 have hG := I.glob
 have hcb : c'.cb = c.cb := I.cb
 have Fd := F.dp
 have hc233 := ϱt F.K
 show WSs c' _ ⟨[("self",some (.ref x))],_⟩ _
 obtain ⟨q0,q1,q2,q3,q4,q5⟩ := hi
 obtain ⟨at1,be1,sh1,sk1,re1,to1,go1,br1⟩ := R
 refine' ϰh ?_;refine' ϱe (by assumption) M3 ?_ rfl;refine' ϰq (by assumption) G0 P0 M4 GF4 rfl ?_
 refine' ϰaE G0 P0 SF3 (Nat.le_of_ble_eq_true rfl) ?_;dsimp only [cA,nA];refine' nx ?_;refine' ϱe (by assumption) M4 ?_ rfl
 refine' ϰr hG M0 ?_ rfl;refine' ϰe ?_ rfl;refine' ϰr hG M1 ?_ rfl;refine' ϰe ?_ rfl
 refine' ϰq (by assumption) G0 P0 M0 GF0 rfl ?_;refine' ϰl ?_;refine' ϰv ?_ ?_;exact δc q3 rfl;refine' ϰe ?_ rfl;refine' ϰc ?_
 refine' ϰq (by assumption) G0 P0 M3 GF3 rfl ?_;refine' ϰq (by assumption) G0 P0 M1 GF1 rfl ?_;refine' ϰX ?_;refine' ϰl ?_
 refine' ϰbf ?_;refine' ϰaE G0 P0 SF4 (Nat.le_of_ble_eq_true rfl) ?_;dsimp only [cA,nA];refine' nx ?_;refine' ϱe (by assumption) M5 ?_ rfl
 refine' WE.cmp ?_ rfl;refine' ϰc ?_;refine' ϰq (by assumption) G0 P0 M4 GF4 rfl ?_;refine' ϰq (by assumption) G0 P0 M3 GF3 rfl ?_
 refine' ϰO ?_;refine' ϰq (by assumption) G0 P0 M1 GF1 rfl ?_;refine' ϱV ?_;refine' ϰaE G0 P0 SF5 (Nat.le_of_ble_eq_true rfl) ?_
 dsimp only [cA,nA];refine' nn ?_;refine' ϱg ?_;rotate_left
 exact ⟨_,Le.refl _,h⟩
theorem drop_ok {d : Y} {block check : Int} {x rl : Addr} {R : RS} {r1 rest : List (Addr × AO)} {n : Int} {w : Str} (hK : c.K = mk0.heap_1 c.w.params) (hr : dp + 1 < 900) (hz : R.reasons.length ≤ 1000000) (pk1 : Pick (x,.inst 233 (rsF d block check rl R)) σ.hp r1) (pk2 : Pick (rl,.list R.reasons) r1 rest) (h : Φ .none ⟨σ.loc,(x,.inst 233 (rsF d block check rl (dropF R n (.str w)))) :: (rl,.list (dropF R n (.str w)).reasons) :: rest⟩) : Enters c dp un 209 [.ref x,.int n,.str w] σ Φ := by
 refine Enters.post ?_
 refine Enters.of (args := ["self","octets","why"]) (more := []) (G := []) (foot := [(x,.inst 233 (rsF d block check rl R)),(rl,.list R.reasons)]) (rest := rest) (by rw [hK];k_is) (by rw [hK];k_is) (room hr) rfl (fun vs e => by obtain ⟨v0,v1,v2,rfl⟩ := len3 e;rfl) (by decide) (by rfl) (by rfl) rfl rfl rfl (by rw [hK];exact ϰD) (by rfl) (pk1.perm.trans (pk2.perm.cons _)) ?_
 intro c' I
 have F : Fix mk0.heap_1 c' 0 := I.fix hK (by exact δb hr rfl)
 have hG := I.glob
 have hcb : c'.cb = c.cb := I.cb
 have Fd := F.dp
 have hc233 := ϱt F.K
 show WSs c' _ ⟨[("self",some (.ref x)),("octets",some (.int n)),("why",some (.str w))],_⟩ _
 obtain ⟨at1,be1,sh1,sk1,re1,to1,go1,br1⟩ := R
 dsimp only at hz
 refine' ϰh ?_;refine' ϰac (by assumption) M6 G0 P0 GF6 rfl ?_;refine' ϰa G1 ?_;refine' ϰL ?_
 refine' augAK P0 SF6 (Nat.le_of_ble_eq_true rfl) ?_;dsimp only [cA,nA];refine' nx ?_;refine' ϰt ?_ rfl;refine' ϱw ?_ rfl rfl rfl
 refine' ϰq (by assumption) G0 P0 M7 GF7 rfl ?_;refine' appK1 P1 ?_;refine' ϰa G2 ?_;refine' appK2 P1 (δc hz rfl) ?_;dsimp only [cA,nA]
 refine' ϰZ ?_;refine' nn ?_;refine' ϱg ?_;rotate_left
 refine ⟨_,?_,h⟩
 exact ⟨LocLe.refl _,.cons P1 (.cons P0 (.refl _))⟩
theorem ϰax {d : Y} {block check : Int} {x rl : Addr} {a b sk go br n : Int} {sh to : Bool} {re : List AV} {w : Str} {r1 rest : List (Addr × AO)} (hK : c.K = mk0.heap_1 c.w.params) (hr : dp + 1 < 900) (hz : re.length ≤ 1000000) (pk1 : Pick (x,.inst 233 (rsF d block check rl ⟨a,b,sh,sk,re,to,go,br⟩)) σ.hp r1) (pk2 : Pick (rl,.list re) r1 rest)
  (h : Φ .none ⟨σ.loc,(x,.inst 233 (rsF d block check rl ⟨a,b,sh,sk + n,re ++ [.str w],to,go,br⟩)) :: (rl,.list (re ++ [.str w])) :: rest⟩) : Enters c dp un 209 [.ref x,.int n,.str w] σ Φ := drop_ok (R := ⟨a,b,sh,sk,re,to,go,br⟩) hK hr hz pk1 pk2 h
theorem rinit_ok {d : Y} {block check : Int} {x : Addr} {rest : List (Addr × AO)} (hK : c.K = mk0.heap_1 c.w.params) (hr : dp + 2 < 900) (hb0 : 8 ≤ block) (hb1 : block ≤ 65542) (hk : check = 1 ∨ check = 2) (hz : d.length ≤ 1000000) (pk : Pick (x,.inst 233 []) σ.hp rest) (h : ∀ rl,Φ .none ⟨σ.loc,(x,.inst 233 (rsF d block check rl ⟨0,0,false,0,[],false,0,0⟩)) :: (rl,.list []) :: rest⟩) : Enters c dp un 202 [.ref x,.bytes d,.int block,.int check] σ Φ := by
 refine Enters.post ?_
 refine Enters.of (args := ["self","data","block","check"]) (more := []) (G := [("check_block",.raw (.ref 132)),("check_kind",.raw (.ref 139)),("bytes",.raw (.type "bytes"))]) (foot := [(x,.inst 233 [])]) (rest := rest) (by rw [hK];k_is) (by rw [hK];k_is) (room hr) rfl (fun vs e => by obtain ⟨v0,v1,v2,v3,rfl⟩ := len4 e;rfl) (by decide) (by rfl) (by rfl) rfl rfl rfl (by rw [hK];exact (ϰg (ϰam _) (ϰg (ϰav _) (ϰg (ϰag _) ϰD)))) (by rfl) pk.perm ?_
 intro c' I
 have F : Fix mk0.heap_1 c' 1 := I.fix hK (by exact δb hr rfl)
 have hG := I.glob
 have hcb : c'.cb = c.cb := I.cb
 have Fd := F.dp
 have hc233 := ϱt F.K
 show WSs c' _ ⟨[("self",some (.ref x)),("data",some (.bytes d)),("block",some (.int block)),("check",some (.int check))],_⟩ _
 refine' ϰh ?_;refine' ϰt ?_ rfl;refine' ϰs hG M0 (.c (.nm G2) .n rfl) rfl ?_;refine' ϰw ?_
 refine' ϰay F.K (by exact δa Fd rfl) hb0 hb1 ?_;refine' ϰZ ?_;refine' nx ?_;refine' ϰt ?_ rfl
 refine' ϰs hG M1 (.c (.nm G3) .n rfl) rfl ?_;refine' ϰw ?_;refine' ϰaH F.K (by exact δa Fd rfl) hk ?_;refine' ϰZ ?_;refine' nx ?_
 refine' ϰJ (by assumption) M0 ?_ rfl;refine' ϰs hG M2 (.c (.nm G1) .n rfl) rfl ?_;refine' WVs.bytesB ?_
 refine' ϱI G0 P0 (of_decide_eq_true rfl) (Nat.le_of_ble_eq_true rfl) ?_;dsimp only [cA,nA];refine' nx ?_;refine' ϰJ (by assumption) M1 ?_ rfl
 refine' ϰa G2 ?_;refine' ϱI G0 P0 (of_decide_eq_true rfl) (Nat.le_of_ble_eq_true rfl) ?_;dsimp only [cA,nA];refine' nx ?_
 refine' ϰJ (by assumption) M2 ?_ rfl;refine' ϰa G3 ?_;refine' ϱI G0 P0 (of_decide_eq_true rfl) (Nat.le_of_ble_eq_true rfl) ?_
 dsimp only [cA,nA];refine' nx ?_;refine' ϰJ (by assumption) M3 ?_ rfl;refine' ϰi ?_
 refine' ϱI G0 P0 (of_decide_eq_true rfl) (Nat.le_of_ble_eq_true rfl) ?_;dsimp only [cA,nA];refine' nx ?_;refine' ϰJ (by assumption) M4 ?_ rfl
 refine' ϰi ?_;refine' ϱI G0 P0 (of_decide_eq_true rfl) (Nat.le_of_ble_eq_true rfl) ?_;dsimp only [cA,nA];refine' nx ?_
 refine' ϰJ (by assumption) M5 ?_ rfl;refine' ϱi ?_;refine' ϱI G0 P0 (of_decide_eq_true rfl) (Nat.le_of_ble_eq_true rfl) ?_;dsimp only [cA,nA]
 refine' nx ?_;refine' ϰJ (by assumption) M6 ?_ rfl;refine' ϰi ?_;refine' ϱI G0 P0 (of_decide_eq_true rfl) (Nat.le_of_ble_eq_true rfl) ?_
 dsimp only [cA,nA];refine' nx ?_;refine' ϰJ (by assumption) M7 ?_ rfl;refine' ϰF ?_;refine' ϰl ?_
 refine' ϱr (zl rfl) (fun _ => ?_);dsimp only [cA,nA];refine' ϱI G0 P1 (of_decide_eq_true rfl) (Nat.le_of_ble_eq_true rfl) ?_;dsimp only [cA,nA]
 refine' nx ?_;refine' ϰJ (by assumption) M8 ?_ rfl;refine' ϱi ?_
 refine' ϱI G0 P0 (of_decide_eq_true rfl) (Nat.le_of_ble_eq_true rfl) ?_;dsimp only [cA,nA];refine' nx ?_;refine' ϰJ (by assumption) M9 ?_ rfl
 refine' ϰi ?_;refine' ϱI G0 P0 (of_decide_eq_true rfl) (Nat.le_of_ble_eq_true rfl) ?_;dsimp only [cA,nA];refine' nx ?_
 refine' ϰJ (by assumption) M10 ?_ rfl;refine' ϰi ?_;refine' ϱI G0 P0 (of_decide_eq_true rfl) (Nat.le_of_ble_eq_true rfl) ?_;dsimp only [cA,nA]
 refine' nn ?_;refine' ϱg ?_;rotate_left
 rename_i rl
 refine ⟨_,?_,h rl⟩
 exact ⟨LocLe.refl _,.refl _⟩
theorem rinitA_ok {d : Y} {block check : Int} {x : Addr} {rest : List (Addr × AO)} {a : Addr} {r0 : List (Addr × AO)} (hK : c.K = mk0.heap_1 c.w.params) (hr : dp + 2 < 900) (hb0 : 8 ≤ block) (hb1 : block ≤ 65542) (hk : check = 1 ∨ check = 2) (hz : d.length ≤ 1000000) (pk0 : Pick (x,.inst 233 []) σ.hp r0) (pk : Pick (a,.bytearray d) r0 rest) (h : ∀ rl,Φ .none ⟨σ.loc,(x,.inst 233 (rsF d block check rl ⟨0,0,false,0,[],false,0,0⟩)) :: (rl,.list []) :: rest⟩) : Enters c dp un 202 [.ref x,.ref a,.int block,.int check] σ Φ := by
 refine Enters.post ?_
 refine Enters.of (args := ["self","data","block","check"]) (more := []) (G := [("check_block",.raw (.ref 132)),("check_kind",.raw (.ref 139)),("bytes",.raw (.type "bytes"))]) (foot := [(x,.inst 233 []),(a,.bytearray d)]) (rest := rest) (by rw [hK];k_is) (by rw [hK];k_is) (room hr) rfl (fun vs e => by obtain ⟨v0,v1,v2,v3,rfl⟩ := len4 e;rfl) (by decide) (by rfl) (by rfl) rfl rfl rfl (by rw [hK];exact (ϰg (ϰam _) (ϰg (ϰav _) (ϰg (ϰag _) ϰD)))) (by rfl) (pk0.perm.trans (pk.perm.cons _)) ?_
 intro c' I
 have F : Fix mk0.heap_1 c' 1 := I.fix hK (by exact δb hr rfl)
 have hG := I.glob
 have hcb : c'.cb = c.cb := I.cb
 have Fd := F.dp
 have hc233 := ϱt F.K
 show WSs c' _ ⟨[("self",some (.ref x)),("data",some (.ref a)),("block",some (.int block)),("check",some (.int check))],_⟩ _
 refine' ϰh ?_;refine' ϰt ?_ rfl;refine' ϰs hG M0 (.c (.nm G2) .n rfl) rfl ?_;refine' ϰw ?_
 refine' ϰay F.K (by exact δa Fd rfl) hb0 hb1 ?_;refine' ϰZ ?_;refine' nx ?_;refine' ϰt ?_ rfl
 refine' ϰs hG M1 (.c (.nm G3) .n rfl) rfl ?_;refine' ϰw ?_;refine' ϰaH F.K (by exact δa Fd rfl) hk ?_;refine' ϰZ ?_;refine' nx ?_
 refine' ϰJ (by assumption) M0 ?_ rfl;refine' ϰs hG M2 (.c (.nm G1) .n rfl) rfl ?_;refine' WVs.bytesA P1 ?_ ?_;exact δc hz rfl
 refine' ϱI G0 P0 (of_decide_eq_true rfl) (Nat.le_of_ble_eq_true rfl) ?_;dsimp only [cA,nA];refine' nx ?_;refine' ϰJ (by assumption) M1 ?_ rfl
 refine' ϰa G2 ?_;refine' ϱI G0 P0 (of_decide_eq_true rfl) (Nat.le_of_ble_eq_true rfl) ?_;dsimp only [cA,nA];refine' nx ?_
 refine' ϰJ (by assumption) M2 ?_ rfl;refine' ϰa G3 ?_;refine' ϱI G0 P0 (of_decide_eq_true rfl) (Nat.le_of_ble_eq_true rfl) ?_
 dsimp only [cA,nA];refine' nx ?_;refine' ϰJ (by assumption) M3 ?_ rfl;refine' ϰi ?_
 refine' ϱI G0 P0 (of_decide_eq_true rfl) (Nat.le_of_ble_eq_true rfl) ?_;dsimp only [cA,nA];refine' nx ?_;refine' ϰJ (by assumption) M4 ?_ rfl
 refine' ϰi ?_;refine' ϱI G0 P0 (of_decide_eq_true rfl) (Nat.le_of_ble_eq_true rfl) ?_;dsimp only [cA,nA];refine' nx ?_
 refine' ϰJ (by assumption) M5 ?_ rfl;refine' ϱi ?_;refine' ϱI G0 P0 (of_decide_eq_true rfl) (Nat.le_of_ble_eq_true rfl) ?_;dsimp only [cA,nA]
 refine' nx ?_;refine' ϰJ (by assumption) M6 ?_ rfl;refine' ϰi ?_;refine' ϱI G0 P0 (of_decide_eq_true rfl) (Nat.le_of_ble_eq_true rfl) ?_
 dsimp only [cA,nA];refine' nx ?_;refine' ϰJ (by assumption) M7 ?_ rfl;refine' ϰF ?_;refine' ϰl ?_
 refine' ϱr (zl rfl) (fun _ => ?_);dsimp only [cA,nA];refine' ϱI G0 P1 (of_decide_eq_true rfl) (Nat.le_of_ble_eq_true rfl) ?_;dsimp only [cA,nA]
 refine' nx ?_;refine' ϰJ (by assumption) M8 ?_ rfl;refine' ϱi ?_
 refine' ϱI G0 P0 (of_decide_eq_true rfl) (Nat.le_of_ble_eq_true rfl) ?_;dsimp only [cA,nA];refine' nx ?_;refine' ϰJ (by assumption) M9 ?_ rfl
 refine' ϰi ?_;refine' ϱI G0 P0 (of_decide_eq_true rfl) (Nat.le_of_ble_eq_true rfl) ?_;dsimp only [cA,nA];refine' nx ?_
 refine' ϰJ (by assumption) M10 ?_ rfl;refine' ϰi ?_;refine' ϱI G0 P0 (of_decide_eq_true rfl) (Nat.le_of_ble_eq_true rfl) ?_;dsimp only [cA,nA]
 refine' nn ?_;refine' ϱg ?_;rotate_left
 rename_i rl
 refine ⟨_,?_,h rl⟩
 exact ⟨LocLe.refl _,.cons P0 (.cons P0 (.skip _ (.refl _)))⟩
end
set_option maxHeartbeats 4000000
section
variable {c : Cx} {σ : St} {dp un : Nat} {Φ : AV → St → Prop}
theorem ϱC {ι : Type} {P : ι → Prop} {μ : ι → Nat} {I : ι → St} {n : Nat} {Φ : AFl → St → Prop} {σ : St} (i : ι) (h : P i) (hm : μ i < n) (e : Le σ (I i)) : loopK c P μ I n Φ .next σ := ⟨i,h,hm,e⟩
theorem fragment_ok {d : Y} {block check : Int} {x rl : Addr} {R : RS} {r1 rest : List (Addr × AO)} (hK : c.K = mk0.heap_1 c.w.params) (hr : dp + 4 < 900) (hi : RInv d block R) (hk : check = 1 ∨ check = 2) (hz : R.reasons.length ≤ 1000000) (pk1 : Pick (x,.inst 233 (rsF d block check rl R)) σ.hp r1) (pk2 : Pick (rl,.list R.reasons) r1 rest) (h : Φ (.tup [.int (fragF d block check R).1.1,.bytes (fragF d block check R).1.2]) ⟨σ.loc,(x,.inst 233 (rsF d block check rl (fragF d block check R).2)) :: (rl,.list (fragF d block check R).2.reasons) :: rest⟩) : Enters c dp un 223 [.ref x] σ Φ := by
 refine Enters.post ?_
 refine Enters.of (args := ["self"]) (more := ["at","left","size","kind","upto","body"]) (G := [("HEADER",.int 7),("AT_END",.int (-1)),("BROKEN",.int (-2)),("ZERO",.int 0),("read_fixed32",.raw (.ref 96)),("checksum",.raw (.ref 125))]) (foot := [(x,.inst 233 (rsF d block check rl R)),(rl,.list R.reasons)]) (rest := rest) (by rw [hK];k_is) (by rw [hK];k_is) (room hr) rfl (fun vs e => by obtain ⟨v0,rfl⟩ := len1 e;rfl) (by decide) (by rfl) (by rfl) rfl rfl rfl (by rw [hK];exact (ϰg (gf_HEADER _) (ϰg (gf_AT_END _) (ϰg (gf_BROKEN _) (ϰg (gf_ZERO _) (ϰg (gf_read_fixed32 _) (ϰg (gf_checksum _) ϰD))))))) (by rfl) (pk1.perm.trans (pk2.perm.cons _)) ?_
 intro c' I
 have F : Fix mk0.heap_1 c' 3 := I.fix hK (by exact δb hr rfl)
 have hG := I.glob
 have hcb : c'.cb = c.cb := I.cb
 have Fd := F.dp
 have hc233 := ϱt F.K
 show WSs c' _ ⟨[("self",some (.ref x)),("at",none),("left",none),("size",none),("kind",none),("upto",none),("body",none)],_⟩ _
 refine' ϰh ?_;rotate_left
 refine ϰab (ι := Bool) (P := fun b => b = true → R.be - R.at_ < 7 ∧ R.short = false) (μ := fun b => if b = true then 0 else 1) (I := fun b => ⟨[("self",some (.ref x)),("at",none),("left",none),("size",none),("kind",none),("upto",none),("body",none)],[(x,.inst 233 (rsF d block check rl (if b = true then turnF d block R else R))),(rl,.list R.reasons)]⟩) false (by intro q;cases q) (Le.refl _) ?_
 intro b hb
 obtain ⟨R1,hR1,i1,hre,hS,hb0,hF⟩ := frag_start (check := check) hi b hb
 show WT c' _ ⟨[("self",some (.ref x)),("at",none),("left",none),("size",none),("kind",none),("upto",none),("body",none)],[(x,.inst 233 (rsF d block check rl (if b = true then turnF d block R else R))),(rl,.list R.reasons)]⟩ _
 rw [hR1,← hre]
 rw [← hre] at hz
 clear hR1
 have i1' := i1
 obtain ⟨q0,q1,q2,q3,q4,q5⟩ := i1
 obtain ⟨at1,be1,sh1,sk1,re1,to1,go1,br1⟩ := R1
 dsimp only at q0 q1 q2 hz hre hS hb0 hF
 refine' ϰu ?_ rfl;refine' ϰc ?_;refine' ϰq (by assumption) G0 P0 M4 GF4 rfl ?_;refine' ϰq (by assumption) G0 P0 M3 GF3 rfl ?_
 refine' ϰO ?_;refine' ϱc hG M0 ?_;refine' ϱV ?_;refine' isB ?_;(refine' qD (fun hc => ?_) (fun hc => ?_) <;> try dsimp only at hc)
 refine' itn ?_;refine' ϰaz ?_ rfl;refine' ϰq (by assumption) G0 P0 M5 GF5 rfl ?_;refine' ϱm ?_
 refine' ϰaZ (fun hc => ?_) (fun hc => ?_);refine' itn ?_;refine' ϰu ?_ rfl;refine' ϰq (by assumption) G0 P0 M3 GF3 rfl ?_
 refine' ϰq (by assumption) G0 P0 M4 GF4 rfl ?_;refine' ϱV ?_;refine' isB ?_
 (refine' qD (fun hc => ?_) (fun hc => ?_) <;> try dsimp only at hc);refine' ϰh ?_;refine' ϱe (by assumption) M8 ?_ rfl;refine' ϱi ?_
 refine' ϰaE G0 P0 SF8 (Nat.le_of_ble_eq_true rfl) ?_;dsimp only [cA,nA];refine' nx ?_;refine' ϱe (by assumption) M3 ?_ rfl
 refine' ϰq (by assumption) G0 P0 M4 GF4 rfl ?_;refine' ϰaE G0 P0 SF3 (Nat.le_of_ble_eq_true rfl) ?_;dsimp only [cA,nA];refine' nn ?_;refine' nx ?_
 refine' ϰP ?_;refine' ϰG ?_;refine' ϰe ?_ rfl;refine' ϱc hG M1 ?_;refine' ϰe ?_ rfl;refine' ϰM (ks := []) rfl ?_
 refine' ϰl ?_;refine' tupK (zl rfl) ?_;refine' ϰm ?_;refine' ϰm ?_;refine' ϱJ ?_;refine' ϰm ?_
 refine' ϰx ?_;rotate_left;refine' ϰf ?_;refine' nx ?_;refine' ϰP ?_;refine' ϰG ?_;refine' ϰe ?_ rfl
 refine' ϱc hG M1 ?_;refine' ϰe ?_ rfl;refine' ϰM (ks := []) rfl ?_;refine' ϰl ?_;refine' tupK (zl rfl) ?_
 refine' ϰm ?_;refine' ϰm ?_;refine' ϱJ ?_;refine' ϰm ?_;refine' ϰx ?_;rotate_left;refine' ϰf ?_;refine' nx ?_
 refine' ϰt ?_ rfl;refine' ϰA (by assumption) G0 P0 M1 (of_decide_eq_true rfl) ?_ rfl rfl;refine' ϰl ?_
 refine' turn_ok F.K (by exact δa Fd rfl) i1' P0 ?_;dsimp only [cA,nA];refine' ϰZ ?_;refine' nn ?_;rotate_left;refine' ϰd ?_;refine' asn ?_ rfl
 refine' ϰq (by assumption) G0 P0 M3 GF3 rfl ?_;refine' setN S1 ?_;dsimp only [cA,nA];refine' asn ?_ rfl;refine' ϰc ?_
 refine' ϰq (by assumption) G0 P0 M4 GF4 rfl ?_;refine' ϰa G1 ?_;refine' ϰO ?_;refine' setN S2 ?_;dsimp only [cA,nA];refine' asn ?_ rfl
 refine' ϰc ?_;refine' ϰI ?_;refine' ϰq (by assumption) G0 P0 M0 GF0 rfl ?_;refine' ϱQ (.add (.nm G1) .i) ?_
 refine' ϰH (fun _ _ => rfl) ?_ ?_ ?_ (fun _ _ => ?_);exact δJ q0 rfl;exact ω2 [_,_] [_] (.lt (.a ξ0 (.n 4)) (.c ν0)) (.nlt (.s ξ1 ξ0) (.n 7)) (.le ξ1 (.c ν0)) hc q2 rfl;exact δc q3 rfl;refine' ϰc ?_;refine' ϰI ?_
 refine' ϰq (by assumption) G0 P0 M0 GF0 rfl ?_;refine' ϱQ (.add (.nm G1) .i) ?_;refine' ϰH (fun _ _ => rfl) ?_ ?_ ?_ (fun _ _ => ?_)
 exact δJ q0 rfl;exact ω2 [_,_] [_] (.lt (.a ξ0 (.n 5)) (.c ν0)) (.nlt (.s ξ1 ξ0) (.n 7)) (.le ξ1 (.c ν0)) hc q2 rfl;exact δc q3 rfl;refine' ϰi ?_;refine' ϰS ?_ ?_ ?_;exact δq (by assumption) (by assumption) rfl;exact Nat.le_of_ble_eq_true rfl;refine' ϰX ?_;refine' setN S3 ?_;dsimp only [cA,nA]
 refine' asn ?_ rfl;refine' ϰI ?_;refine' ϰq (by assumption) G0 P0 M0 GF0 rfl ?_;refine' ϱQ (.add (.nm G1) .i) ?_
 refine' ϰH (fun _ _ => rfl) ?_ ?_ ?_ (fun _ _ => ?_);exact δJ q0 rfl;exact ω2 [_,_] [_] (.lt (.a ξ0 (.n 6)) (.c ν0)) (.nlt (.s ξ1 ξ0) (.n 7)) (.le ξ1 (.c ν0)) hc q2 rfl;exact δc q3 rfl;refine' setN S4 ?_;dsimp only [cA,nA]
 refine' itc (.gt (.add (.gl hG M0) (.nm G3)) (.nm G2)) ?_;refine' qD (fun hc => ?_) (fun hc => ?_);refine' ϰh ?_
 refine' ϱe (by assumption) M3 ?_ rfl;refine' ϰq (by assumption) G0 P0 M4 GF4 rfl ?_;refine' ϰaE G0 P0 SF3 (Nat.le_of_ble_eq_true rfl) ?_
 dsimp only [cA,nA];refine' ϰd ?_;refine' itn ?_;refine' ϰaz ?_ rfl;refine' ϰq (by assumption) G0 P0 M5 GF5 rfl ?_;refine' ϱm ?_
 refine' ϰaZ (fun hc => ?_) (fun hc => ?_);refine' ϰh ?_;refine' ϱe (by assumption) M8 ?_ rfl;refine' ϱi ?_
 refine' ϰaE G0 P0 SF8 (Nat.le_of_ble_eq_true rfl) ?_;dsimp only [cA,nA];refine' nx ?_;refine' ϰP ?_;refine' ϰG ?_;refine' ϰe ?_ rfl
 refine' ϱc hG M1 ?_;refine' ϰe ?_ rfl;refine' ϰM (ks := []) rfl ?_;refine' ϰl ?_;refine' tupK (zl rfl) ?_
 refine' ϰm ?_;refine' ϰm ?_;refine' ϰm ?_;refine' ϰx ?_;rotate_left;refine' ϰf ?_;refine' nx ?_
 refine' ϰac (by assumption) M10 G0 P0 GF10 rfl ?_;refine' ϰi ?_;refine' ϰL ?_;refine' augAK P0 SF10 (Nat.le_of_ble_eq_true rfl) ?_
 dsimp only [cA,nA];refine' nx ?_;refine' ϰt ?_ rfl;refine' ϰA (by assumption) G0 P0 M0 (of_decide_eq_true rfl) ?_ rfl rfl
 refine' ϰz (.c (.nm G2) (.c .st .n rfl) rfl) ?_;refine' ϰax F.K (by exact δa Fd rfl) ?_ P0 P0 ?_;exact δc hz rfl;refine' ϰZ ?_;refine' nx ?_
 refine' ϰP ?_;refine' ϰG ?_;refine' ϰe ?_ rfl;refine' ϱc hG M2 ?_;refine' ϰe ?_ rfl;refine' ϰM (ks := []) rfl ?_
 refine' ϰl ?_;refine' tupK (zl rfl) ?_;refine' ϰm ?_;refine' ϰm ?_;refine' ϰx ?_;rotate_left;refine' ϰf ?_
 refine' ϰd ?_;refine' itn ?_;refine' ϱb ?_;refine' ϰU (.eq (.nm G4) (.gl hG M3)) ?_;refine' qD (fun hc => ?_) (fun hc => ?_)
 refine' ϱb ?_;refine' ϰU (.eq (.nm G3) .i) ?_;refine' qD (fun hc => ?_) (fun hc => ?_);refine' ϱn ?_;refine' tT ?_
 refine' ϰh ?_;refine' ϱe (by assumption) M3 ?_ rfl;refine' ϰq (by assumption) G0 P0 M4 GF4 rfl ?_
 refine' ϰaE G0 P0 SF3 (Nat.le_of_ble_eq_true rfl) ?_;dsimp only [cA,nA];refine' nx ?_;refine' ϰac (by assumption) M10 G0 P0 GF10 rfl ?_
 refine' ϰi ?_;refine' ϰL ?_;refine' augAK P0 SF10 (Nat.le_of_ble_eq_true rfl) ?_;dsimp only [cA,nA];refine' nx ?_;refine' ϰP ?_
 refine' ϰG ?_;refine' ϰe ?_ rfl;refine' ϱc hG M2 ?_;refine' ϰe ?_ rfl;refine' ϰM (ks := []) rfl ?_;refine' ϰl ?_
 refine' tupK (zl rfl) ?_;refine' ϰm ?_;refine' ϰm ?_;refine' ϰx ?_;rotate_left;refine' fT ?_;refine' ϰf ?_
 refine' ϰd ?_;refine' asg (.add (.add (.nm G1) (.gl hG M0)) (.nm G3)) S5 rfl ?_;refine' asn ?_ rfl;refine' ϰQ ?_
 refine' ϰq (by assumption) G0 P0 M0 GF0 rfl ?_;refine' ϰy ?_;refine' ϱQ (.sub (.add (.nm G1) (.gl hG M0)) .i) ?_;refine' isI ?_
 refine' ϰy ?_;refine' ϰa G5 ?_;refine' isI ?_;refine' isY ?_;refine' tupK (δc q3 rfl) ?_;refine' setN S6 ?_;dsimp only [cA,nA]
 refine' itn ?_;refine' ϰu ?_ rfl;refine' ϰr hG M4 ?_ rfl;refine' ϰe ?_ rfl;refine' ϰq (by assumption) G0 P0 M0 GF0 rfl ?_
 refine' ϰz (.c (.nm G1) .n rfl) ?_;refine' ϰw ?_;refine' read4_ok F.K (by exact δa Fd rfl) ?_ ?_ ?_ ?_;exact δj q0 rfl;exact κ4 [_,_,_,_] [_] (.le (.a ξ0 (.n 4)) (.c ν0)) (.le ξ1 (.c ν0)) (.nlt (.s ξ1 ξ0) (.a (.n 7) (.a ξ2 (.r ξ3 256)))) (.le (.n 0) ξ3) (.le (.n 0) ξ2) [1,1,1,256,1] q2 (by assumption) (by assumption) (by assumption) rfl;exact δc q3 rfl
 refine' ϰr hG M5 ?_ rfl;refine' ϰe ?_ rfl;refine' ϰq (by assumption) G0 P0 M2 GF2 rfl ?_;refine' ϰz (.c (.nm G6) .n rfl) ?_
 refine' ϰw ?_;refine' check_ok F.K (by exact δa Fd rfl) hk ?_ ?_;refine' ϱz ?_;exact δc q3 rfl;refine' ϱj ?_;refine' isB ?_
 refine' qD (fun hc => ?_) (fun hc => ?_);refine' ϰh ?_;refine' ϱe (by assumption) M3 ?_ rfl
 refine' ϰq (by assumption) G0 P0 M4 GF4 rfl ?_;refine' ϰaE G0 P0 SF3 (Nat.le_of_ble_eq_true rfl) ?_;dsimp only [cA,nA];refine' nx ?_
 refine' ϰac (by assumption) M10 G0 P0 GF10 rfl ?_;refine' ϰi ?_;refine' ϰL ?_;refine' augAK P0 SF10 (Nat.le_of_ble_eq_true rfl) ?_
 dsimp only [cA,nA];refine' nx ?_;refine' ϰt ?_ rfl;refine' ϰA (by assumption) G0 P0 M0 (of_decide_eq_true rfl) ?_ rfl rfl
 refine' ϰz (.c (.nm G2) (.c .st .n rfl) rfl) ?_;refine' ϰax F.K (by exact δa Fd rfl) ?_ P0 P0 ?_;exact δc hz rfl;refine' ϰZ ?_;refine' nx ?_
 refine' ϰP ?_;refine' ϰG ?_;refine' ϰe ?_ rfl;refine' ϱc hG M2 ?_;refine' ϰe ?_ rfl;refine' ϰM (ks := []) rfl ?_
 refine' ϰl ?_;refine' tupK (zl rfl) ?_;refine' ϰm ?_;refine' ϰm ?_;refine' ϰx ?_;rotate_left;refine' ϰf ?_
 refine' nx ?_;refine' ϱe (by assumption) M3 ?_ rfl;refine' ϰa G5 ?_;refine' ϰaE G0 P0 SF3 (Nat.le_of_ble_eq_true rfl) ?_;dsimp only [cA,nA]
 refine' nx ?_;refine' ϰP ?_;refine' ϰG ?_;refine' ϰe ?_ rfl;refine' ϰa G4 ?_;refine' ϰe ?_ rfl;refine' ϰQ ?_
 refine' ϰa G6 ?_;refine' ϰy ?_;refine' ϰi ?_;refine' isI ?_;refine' ϰK ?_;refine' isY ?_;refine' tupK (ϱz (δc q3 rfl)) ?_
 refine' ϰl ?_;refine' tupK (zl rfl) ?_;refine' ϰm ?_;refine' ϰx ?_;rotate_left;refine' fT ?_;refine' ϰf ?_
 refine' ϰd ?_;refine' asg (.add (.add (.nm G1) (.gl hG M0)) (.nm G3)) S5 rfl ?_;refine' asn ?_ rfl;refine' ϰQ ?_
 refine' ϰq (by assumption) G0 P0 M0 GF0 rfl ?_;refine' ϰy ?_;refine' ϱQ (.sub (.add (.nm G1) (.gl hG M0)) .i) ?_;refine' isI ?_
 refine' ϰy ?_;refine' ϰa G5 ?_;refine' isI ?_;refine' isY ?_;refine' tupK (δc q3 rfl) ?_;refine' setN S6 ?_;dsimp only [cA,nA]
 refine' itn ?_;refine' ϰu ?_ rfl;refine' ϰr hG M4 ?_ rfl;refine' ϰe ?_ rfl;refine' ϰq (by assumption) G0 P0 M0 GF0 rfl ?_
 refine' ϰz (.c (.nm G1) .n rfl) ?_;refine' ϰw ?_;refine' read4_ok F.K (by exact δa Fd rfl) ?_ ?_ ?_ ?_;exact δj q0 rfl;exact κ4 [_,_,_,_] [_] (.le (.a ξ0 (.n 4)) (.c ν0)) (.le ξ1 (.c ν0)) (.nlt (.s ξ1 ξ0) (.a (.n 7) (.a ξ2 (.r ξ3 256)))) (.le (.n 0) ξ3) (.le (.n 0) ξ2) [1,1,1,256,1] q2 (by assumption) (by assumption) (by assumption) rfl;exact δc q3 rfl
 refine' ϰr hG M5 ?_ rfl;refine' ϰe ?_ rfl;refine' ϰq (by assumption) G0 P0 M2 GF2 rfl ?_;refine' ϰz (.c (.nm G6) .n rfl) ?_
 refine' ϰw ?_;refine' check_ok F.K (by exact δa Fd rfl) hk ?_ ?_;refine' ϱz ?_;exact δc q3 rfl;refine' ϱj ?_;refine' isB ?_
 refine' qD (fun hc => ?_) (fun hc => ?_);refine' ϰh ?_;refine' ϱe (by assumption) M3 ?_ rfl
 refine' ϰq (by assumption) G0 P0 M4 GF4 rfl ?_;refine' ϰaE G0 P0 SF3 (Nat.le_of_ble_eq_true rfl) ?_;dsimp only [cA,nA];refine' nx ?_
 refine' ϰac (by assumption) M10 G0 P0 GF10 rfl ?_;refine' ϰi ?_;refine' ϰL ?_;refine' augAK P0 SF10 (Nat.le_of_ble_eq_true rfl) ?_
 dsimp only [cA,nA];refine' nx ?_;refine' ϰt ?_ rfl;refine' ϰA (by assumption) G0 P0 M0 (of_decide_eq_true rfl) ?_ rfl rfl
 refine' ϰz (.c (.nm G2) (.c .st .n rfl) rfl) ?_;refine' ϰax F.K (by exact δa Fd rfl) ?_ P0 P0 ?_;exact δc hz rfl;refine' ϰZ ?_;refine' nx ?_
 refine' ϰP ?_;refine' ϰG ?_;refine' ϰe ?_ rfl;refine' ϱc hG M2 ?_;refine' ϰe ?_ rfl;refine' ϰM (ks := []) rfl ?_
 refine' ϰl ?_;refine' tupK (zl rfl) ?_;refine' ϰm ?_;refine' ϰm ?_;refine' ϰx ?_;rotate_left;refine' ϰf ?_
 refine' nx ?_;refine' ϱe (by assumption) M3 ?_ rfl;refine' ϰa G5 ?_;refine' ϰaE G0 P0 SF3 (Nat.le_of_ble_eq_true rfl) ?_;dsimp only [cA,nA]
 refine' nx ?_;refine' ϰP ?_;refine' ϰG ?_;refine' ϰe ?_ rfl;refine' ϰa G4 ?_;refine' ϰe ?_ rfl;refine' ϰQ ?_
 refine' ϰa G6 ?_;refine' ϰy ?_;refine' ϰi ?_;refine' isI ?_;refine' ϰK ?_;refine' isY ?_;refine' tupK (ϱz (δc q3 rfl)) ?_
 refine' ϰl ?_;refine' tupK (zl rfl) ?_;refine' ϰm ?_;refine' ϰx ?_;rotate_left
 all_goals first
  |((refine ϱC true ?_ ?_ ?_);(refine fun _ => ?_);done)
  |((have e := hF (by first | (intro _;assumption) | (intro q;exfalso;omega)));(first | (rw [e,fragC_end0 (by assumption) (by assumption)] at h) | (rw [e,fragC_end1 (by assumption) (by assumption)] at h) | (rw [e,fragC_torn (by assumption) (by assumption) (by assumption)] at h) | (rw [e,fragC_long (by assumption) (by assumption) (by assumption)] at h) | (rw [e,fragC_zero (by assumption) (by assumption) ⟨(by assumption),(by assumption)⟩] at h) | (rw [e,fragC_bad (by assumption) (by assumption) (by dsimp only [szR];omega) (by assumption)] at h) | (rw [e,fragC_good (by assumption) (by assumption) (by dsimp only [szR];omega) (by assumption)] at h));(refine ⟨_,?_,h⟩);exact ⟨LocLe.refl _,by (first | exact .refl _ | exact .cons P0 (.cons P0 (.refl _)))⟩)
  |(cases b with
    | true => exact absurd (hS rfl (by assumption)) (by rw [show sh1 = false by assumption];decide)
    | false => (have e1 := hb0 rfl;subst e1;exact ϱC true (fun _ => ⟨by assumption,by assumption⟩) (by decide) ⟨LocLe.refl _,.cons P0 (.refl _)⟩))
  | trace_state
end
noncomputable abbrev unkS (k : Int) : Str := ("unknown record kind " : Str) ++ Str.ofString (toString k)
noncomputable def readS (b : Bool) (p : Y) (k : Int) (y : Y) (R1 : RS) : (Option Y × RS) ⊕ (Bool × Y × RS) :=
 if k = -1 then .inl (none,if b then { R1 with torn := true } else R1)
 else if k = 1 ∨ k = 2 then
  let R2 : RS := if b then (if 0 < (p.length : Int) then dropF { R1 with breaks := R1.breaks + 1 } p.length (.str "partial record without end") else { R1 with breaks := R1.breaks + 1 }) else R1
  if k = 1 then .inl (some y,{ R2 with good := R2.at_ }) else .inr (true,y,R2)
 else if k = 3 ∨ k = 4 then
  if b then (if k = 4 then .inl (some (p ++ y),{ R1 with good := R1.at_ }) else .inr (b,p ++ y,R1))
  else .inr (b,p,dropF { R1 with breaks := R1.breaks + 1 } y.length (.str "missing start of a record"))
 else if k = -2 then .inr (false,[],if b then dropF R1 p.length (.str "error in the middle of a record") else R1)
 else .inr (false,[],dropF { R1 with breaks := R1.breaks + 1 } ((y.length : Int) + p.length) (.str (unkS k)))
noncomputable def readF (d : Y) (block check : Int) : Nat → Bool → Y → RS → Option (Option Y × RS)
 | 0,_,_,_ => none
 | n + 1,b,p,R =>
  match readS b p (fragF d block check R).1.1 (fragF d block check R).1.2 (fragF d block check R).2 with
  | .inl r => some r
  | .inr (b',p',R') => readF d block check n b' p' R'
theorem ϰao {d : Y} {block check : Int} {n : Nat} {b : Bool} {p : Y} {R : RS} {r res : Option Y × RS} {k : Int} {y : Y} {R1 : RS} (e : fragF d block check R = ((k,y),R1)) (h : readF d block check (n + 1) b p R = some res) (q : readS b p k y R1 = .inl r) : r = res := by
 simp only [readF,e,q] at h;exact Option.some.inj h
theorem ϱG {d : Y} {block check : Int} {n : Nat} {b b' : Bool} {p p' : Y} {R R' : RS} {res : Option Y × RS} {k : Int} {y : Y} {R1 : RS} (e : fragF d block check R = ((k,y),R1)) (h : readF d block check (n + 1) b p R = some res) (q : readS b p k y R1 = .inr (b',p',R')) : readF d block check n b' p' R' = some res := by
 simp only [readF,e,q] at h;exact h
section
variable {b : Bool} {p y : Y} {k : Int} {R : RS}
theorem rs1 (h : k = -1) (hb : b = true) : readS b p k y R = .inl (none,{ R with torn := true }) := by subst hb;unfold readS;rw [if_pos h];rfl
theorem rs2 (h : k = -1) (hb : b = false) : readS b p k y R = .inl (none,R) := by subst hb;unfold readS;rw [if_pos h];rfl
theorem rs3 (h : k = 1) (hb : b = true) (hp : 0 < (p.length : Int)) : readS b p k y R = .inl (some y,{ dropF { R with breaks := R.breaks + 1 } p.length (.str "partial record without end") with good := R.at_ }) := by
 subst hb h;unfold readS;rw [if_neg (by decide : ¬ (1:Int) = -1),if_pos (Or.inl rfl)];simp only [if_true,if_pos hp] <;> rfl
theorem rs4 (h : k = 1) (hb : b = true) (hp : ¬ 0 < (p.length : Int)) : readS b p k y R = .inl (some y,{ R with breaks := R.breaks + 1,good := R.at_ }) := by
 subst hb h;unfold readS;rw [if_neg (by decide : ¬ (1:Int) = -1),if_pos (Or.inl rfl)];simp only [if_true,if_neg hp]
theorem rs5 (h : k = 1) (hb : b = false) : readS b p k y R = .inl (some y,{ R with good := R.at_ }) := by
 subst hb h;unfold readS;simp
theorem rs6 (h : k = 2) (hb : b = true) (hp : 0 < (p.length : Int)) : readS b p k y R = .inr (true,y,dropF { R with breaks := R.breaks + 1 } p.length (.str "partial record without end")) := by
 subst hb h;unfold readS;rw [if_neg (by decide : ¬ (2:Int) = -1),if_pos (Or.inr rfl)];simp only [if_true,if_pos hp] <;> rfl
theorem rs7 (h : k = 2) (hb : b = true) (hp : ¬ 0 < (p.length : Int)) : readS b p k y R = .inr (true,y,{ R with breaks := R.breaks + 1 }) := by
 subst hb h;unfold readS;rw [if_neg (by decide : ¬ (2:Int) = -1),if_pos (Or.inr rfl)];simp only [if_true,if_neg hp] <;> rfl
theorem rs8 (h : k = 2) (hb : b = false) : readS b p k y R = .inr (true,y,R) := by
 subst hb h;unfold readS;simp
theorem rs9 (h : k = 3 ∨ k = 4) (hb : b = false) : readS b p k y R = .inr (b,p,dropF { R with breaks := R.breaks + 1 } y.length (.str "missing start of a record")) := by
 subst hb;rcases h with rfl | rfl <;> (unfold readS;simp)
theorem rs10 (h : k = 4) (hb : b = true) : readS b p k y R = .inl (some (p ++ y),{ R with good := R.at_ }) := by
 subst hb h;unfold readS;simp
theorem rs11 (h : k = 3) (hb : b = true) : readS b p k y R = .inr (b,p ++ y,R) := by
 subst hb h;unfold readS;simp
theorem rs12 (h : k = -2) (hb : b = true) : readS b p k y R = .inr (false,[],dropF R p.length (.str "error in the middle of a record")) := by
 subst hb h;unfold readS;simp
theorem rs13 (h : k = -2) (hb : b = false) : readS b p k y R = .inr (false,[],R) := by
 subst hb h;unfold readS;simp
theorem rs14 (h1 : k ≠ -1) (h2 : k ≠ -2) (h3 : k ≠ 1) (h4 : k ≠ 2) (h5 : k ≠ 3) (h6 : k ≠ 4) : readS b p k y R = .inr (false,[],dropF { R with breaks := R.breaks + 1 } ((y.length : Int) + p.length) (.str (unkS k))) := by
 unfold readS;simp [h1,h2,h3,h4,h5,h6]
end
theorem cut_len {α : Type} {l : List α} {a b : Option Int} {n : Nat} (h : l.length ≤ n) : (cut l a b).length ≤ n := by
 unfold cut;rw [List.length_take,List.length_drop];omega
theorem ϱT {d : Y} (h : Byt d) (i : Nat) : 0 ≤ d.getD i 0 ∧ d.getD i 0 < 256 := by
 rw [List.getD_eq_getElem?_getD]
 by_cases q : i < d.length
 ·rw [List.getElem?_eq_getElem q];exact h _ (List.getElem_mem q)
 ·rw [List.getElem?_eq_none (by exact Nat.not_lt.mp q)];decide
structure FragOK (d : Y) (block : Int) (R : RS) (f : (Int × Y) × RS) : Prop where
 inv : RInv d block f.2
 len : f.1.2.length ≤ 2000
 kd : -2 ≤ f.1.1 ∧ f.1.1 < 256
 rs : f.2.reasons.length ≤ R.reasons.length + 1
theorem fragC_okay {d : Y} {block check : Int} {R : RS} (h : RInv d block R) (hd : Byt d) : FragOK d block R (fragC d check R) := by
 obtain ⟨h1,h2,h3,h4,h5,h6⟩ := h
 have g4 := ϱT hd (R.at_ + 4).toNat
 have g5 := ϱT hd (R.at_ + 5).toNat
 have g6 := ϱT hd (R.at_ + 6).toNat
 unfold fragC
 split
 ·unfold fragEnd
  refine ⟨?_,by simp,by dsimp only;exact ⟨by decide,by decide⟩,?_⟩
  ·dsimp only;split <;> (constructor <;> (try assumption) <;> (dsimp only;omega))
  ·dsimp only;split <;> simp
 ·unfold fragB
  split
  ·split
   ·exact ⟨⟨by dsimp only;exact Int.le_trans h1 h2,by dsimp only;exact Int.le_refl _,h3,h4,h5,h6⟩,by simp,by dsimp only;exact ⟨by decide,by decide⟩,by simp⟩
   ·exact ⟨⟨by dsimp only [dropF];exact Int.le_trans h1 h2,by dsimp only [dropF];exact Int.le_refl _,h3,h4,h5,h6⟩,by simp,by dsimp only;exact ⟨by decide,by decide⟩,by simp [dropF]⟩
  ·split
   ·exact ⟨⟨by dsimp only;exact Int.le_trans h1 h2,by dsimp only;exact Int.le_refl _,h3,h4,h5,h6⟩,by simp,by dsimp only;exact ⟨by decide,by decide⟩,by simp⟩
   ·split
    ·exact ⟨⟨by dsimp only [dropF];exact Int.le_trans h1 h2,by dsimp only [dropF];exact Int.le_refl _,h3,h4,h5,h6⟩,by simp,by dsimp only;exact ⟨by decide,by decide⟩,by simp [dropF]⟩
    ·refine ⟨⟨by dsimp only;exact κ3 [_,_,_] [] (.le (.n 0) (.a (.a ξ0 (.n 7)) (.a ξ1 (.r ξ2 256)))) (.le (.n 0) ξ2) (.le (.n 0) ξ1) (.le (.n 0) ξ0) [1,256,1,1] g5.1 g4.1 h1 rfl,by dsimp only;exact ω1 [_,_,_,_] [] (.le (.a (.a ξ0 (.n 7)) (.a ξ1 (.r ξ2 256))) ξ3) (.nlt (.s ξ3 ξ0) (.a (.n 7) (.a ξ1 (.r ξ2 256)))) (by assumption) rfl,h3,h4,h5,h6⟩,?_,by dsimp only;exact ⟨δj g6.1 rfl,δi g6.2 rfl⟩,by simp⟩
     dsimp only
     exact cut_len (cut_len h4)
theorem ϰar {d : Y} {block check : Int} {R : RS} (h : RInv d block R) (hd : Byt d) : FragOK d block R (fragF d block check R) := by
 unfold fragF
 split
 ·have := fragC_okay (check := check) (turn_inv h) hd
  exact ⟨this.inv,this.len,this.kd,this.rs⟩
 ·exact fragC_okay h hd
set_option maxHeartbeats 4000000
section
variable {c : Cx} {σ : St} {dp un : Nat} {Φ : AV → St → Prop}
structure RI where
 n : Nat
 b : Bool
 p : Y
 a : Addr
 R : RS
noncomputable abbrev optA : Option Y → AV
 | none => .none
 | some y => .bytes y
theorem unk_len {k : Int} (h0 : 0 ≤ k) (h1 : k < 256) : (Str.ofString "unknown record kind ").length + (Str.ofString (toString k)).length ≤ 16777216 := by
 have e : (Str.ofString "unknown record kind ").length = 20 := by decide +kernel
 have := PyProof.Rows.toString_length_le h0 (k := 3) (by decide) (by exact δi h1 rfl)
 exact ω2 [] [_,_] (.Le (.a ν0 ν1) (.n 16777216)) (.Le ν1 (.n 3)) (.Eq ν0 (.n 20)) this e rfl
theorem read_ok {d : Y} {block check : Int} {x rl : Addr} {R : RS} {r1 rest : List (Addr × AO)} {n : Nat} {res : Option Y × RS} (hK : c.K = mk0.heap_1 c.w.params) (hr : dp + 5 < 900) (hcb0 : c.cb = true) (hbd : Byt d) (hi : RInv d block R) (hk : check = 1 ∨ check = 2) (hn : n ≤ 4000) (hz : R.reasons.length ≤ 500000) (hres : readF d block check n false [] R = some res) (pk1 : Pick (x,.inst 233 (rsF d block check rl R)) σ.hp r1) (pk2 : Pick (rl,.list R.reasons) r1 rest) (h : Φ (optA res.1) ⟨σ.loc,(x,.inst 233 (rsF d block check rl res.2)) :: (rl,.list res.2.reasons) :: rest⟩) : Enters c dp un 230 [.ref x] σ Φ := by
 refine Enters.post ?_
 refine Enters.of (args := ["self"]) (more := ["begun","parts","kind","data"]) (G := [("AT_END",.int (-1)),("FULL",.int 1),("FIRST",.int 2),("MIDDLE",.int 3),("LAST",.int 4),("BROKEN",.int (-2)),("bytearray",.raw (.type "bytearray")),("bytes",.raw (.type "bytes")),("len",.raw (.builtin "len")),("str",.raw (.type "str"))]) (foot := [(x,.inst 233 (rsF d block check rl R)),(rl,.list R.reasons)]) (rest := rest) (by rw [hK];k_is) (by rw [hK];k_is) (room hr) rfl (fun vs e => by obtain ⟨v0,rfl⟩ := len1 e;rfl) (by decide) (by rfl) (by rfl) rfl rfl rfl (by rw [hK];exact (ϰg (gf_AT_END _) (ϰg (gf_FULL _) (ϰg (gf_FIRST _) (ϰg (gf_MIDDLE _) (ϰg (gf_LAST _) (ϰg (gf_BROKEN _) (ϰg (gf_bytearray _) (ϰg (ϰag _) (ϰg (ϰaD _) (ϰg (gf_str _) ϰD))))))))))) (by rfl) (pk1.perm.trans (pk2.perm.cons _)) ?_
 intro c' I
 have F : Fix mk0.heap_1 c' 4 := I.fix hK (by exact δb hr rfl)
 have hG := I.glob
 have hcb : c'.cb = c.cb := I.cb
 have Fd := F.dp
 have hc233 := ϱt F.K
 show WSs c' _ ⟨[("self",some (.ref x)),("begun",none),("parts",none),("kind",none),("data",none)],_⟩ _
 have hcb1 : c'.cb = true := hcb.trans hcb0
 refine' asg .bo S1 rfl ?_;refine' asn ?_ rfl;refine' ϰs hG M6 .n rfl ?_;refine' WVs.ba0 hcb1 (fun a2 => ?_);dsimp only [cA,nA]
 refine' setN S2 ?_;refine' ϰh ?_;rotate_left
 refine ϰab (ι := RI) (P := fun i => readF d block check i.n i.b i.p i.R = some res ∧ RInv d block i.R ∧ i.p.length + i.n * 2000 ≤ 10000000 ∧ i.R.reasons.length + 3 * i.n ≤ 900000) (μ := fun i => i.n) (I := fun i => ⟨[("self",some (.ref x)),("begun",some (.bool i.b)),("parts",some (.ref i.a)),("kind",none),("data",none)],[(x,.inst 233 (rsF d block check rl i.R)),(rl,.list i.R.reasons),(i.a,.bytearray i.p)]⟩) ⟨n,false,[],a2,R⟩ ⟨hres,hi,by dsimp only [List.length_nil];exact κ1 [] [_] (.Le (.a (.n 0) (.r ν0 2000)) (.n 10000000)) (.Le ν0 (.n 4000)) [1,2000] hn rfl,by dsimp only;exact κ2 [] [_,_] (.Le (.a ν0 (.m 3 ν1)) (.n 900000)) (.Le ν0 (.n 500000)) (.Le ν1 (.n 4000)) [1,1,3] hz hn rfl⟩ ⟨.refl _,.cons P1 (.cons P1 (.refl _))⟩ ?_
 clear hres hz pk1 pk2 hi
 rintro ⟨n1,b,p,a,R⟩ ⟨hres,hi,hp,hrs⟩
 dsimp only at hres hi hp hrs
 cases n1 with
 | zero => cases hres
 | succ n1 =>
 obtain ⟨f1,f2,f3,f4⟩ := ϰar (check := check) hi hbd
 obtain ⟨q0,q1,q2,q3,q4,q5⟩ := hi
 have hi : RInv d block R := ⟨q0,q1,q2,q3,q4,q5⟩
 show WT c' _ ⟨[("self",some (.ref x)),("begun",some (.bool b)),("parts",some (.ref a)),("kind",none),("data",none)],[(x,.inst 233 (rsF d block check rl R)),(rl,.list R.reasons),(a,.bytearray p)]⟩ _
 refine' ϰU (.vb .bo rfl) ?_;refine' tT ?_;refine' ϰh ?_
 refine' ϰaV (by (repeat (first | exact NamesAre.nil | apply NamesAre.cons));done) ?_ rfl rfl
 refine' ϰA (by assumption) G0 P0 M2 (of_decide_eq_true rfl) ?_ rfl rfl;refine' ϰl ?_
 (focus (refine' fragment_ok F.K (by exact δa Fd rfl) hi hk ?_ P0 P0 ?_;rotate_left;generalize hfr : fragF d block check R = f at *;obtain ⟨⟨k,y⟩,at1,be1,sh1,sk1,re1,to1,go1,br1⟩ := f;obtain ⟨q0,q1,q2,q3,q4,q5⟩ := f1;dsimp only at q0 q1 q2 f2 f3 f4;dsimp only [cA,nA]))
 refine' tupS ((.cons S3 (.cons S4 (.nil _)))) ?_;refine' ϰd ?_;refine' itc (.eq (.nm G3) (.gl hG M0)) ?_
 refine' qD (fun hc => ?_) (fun hc => ?_);refine' itc (.vb (.nm G1) rfl) ?_;refine' ϰaZ (fun hc => ?_) (fun hc => ?_);refine' ϰh ?_
 refine' ϱe (by assumption) M8 ?_ rfl;refine' ϱi ?_;refine' ϰaE G0 P0 SF8 (Nat.le_of_ble_eq_true rfl) ?_;dsimp only [cA,nA];refine' nn ?_
 refine' nx ?_;refine' ϰP ?_;refine' ϰaA ?_;refine' ϰm ?_;refine' ϰm ?_;refine' ϱJ ?_;refine' ϰm ?_
 refine' ϰx ?_;rotate_left;refine' ϰf ?_;refine' nx ?_;refine' ϰP ?_;refine' ϰaA ?_;refine' ϰm ?_;refine' ϰm ?_
 refine' ϱJ ?_;refine' ϰm ?_;refine' ϰx ?_;rotate_left;refine' ϰf ?_;refine' ϰd ?_;refine' itn ?_;refine' ϰY ?_
 refine' ϰU (.eq (.nm G3) (.gl hG M1)) ?_;refine' qD' (fun hc => ?_) (fun hc => ?_);refine' ϰY ?_;refine' ϰU (.eq (.nm G3) (.gl hG M2)) ?_
 refine' qD' (fun hc => ?_) (fun hc => ?_);refine' ϰE ?_;refine' fT ?_;refine' itn ?_;refine' ϰY ?_
 refine' ϰU (.eq (.nm G3) (.gl hG M3)) ?_;refine' qD' (fun hc => ?_) (fun hc => ?_);refine' ϰY ?_;refine' ϰU (.eq (.nm G3) (.gl hG M4)) ?_
 refine' qD' (fun hc => ?_) (fun hc => ?_);refine' ϰE ?_;refine' fT ?_;refine' itc (.eq (.nm G3) (.gl hG M5)) ?_
 refine' qD (fun hc => ?_) (fun hc => ?_);refine' itc (.vb (.nm G1) rfl) ?_;refine' ϰaZ (fun hc => ?_) (fun hc => ?_);refine' ϰh ?_
 refine' ϰt ?_ rfl;refine' ϰA (by assumption) G0 P0 M0 (of_decide_eq_true rfl) ?_ rfl rfl;refine' ϰe ?_ rfl
 refine' ϰs hG M8 (.c (.nm G2) .n rfl) rfl ?_;refine' ϰaU P2 ?_ ?_;exact δK hp rfl;refine' ϰz (.c .st .n rfl) ?_
 refine' ϰax F.K (by exact δa Fd rfl) ?_ P0 P0 ?_;exact δM f4 hrs rfl;refine' ϰZ ?_;refine' nn ?_;refine' nn ?_;refine' ϰd ?_;refine' asn ?_ rfl
 refine' ϰs hG M6 .n rfl ?_;refine' WVs.ba0 hcb1 (fun a2 => ?_);dsimp only [cA,nA];refine' setN S2 ?_;refine' asg .bo S1 rfl ?_
 refine' ϰf ?_;refine' nn ?_;refine' nn ?_;rotate_left;refine' ϰf ?_;refine' nn ?_;refine' ϰd ?_;refine' asn ?_ rfl
 refine' ϰs hG M6 .n rfl ?_;refine' WVs.ba0 hcb1 (fun a2 => ?_);dsimp only [cA,nA];refine' setN S2 ?_;refine' asg .bo S1 rfl ?_
 refine' ϰf ?_;refine' nn ?_;refine' nn ?_;rotate_left;refine' ϰh ?_;refine' ϰac (by assumption) M10 G0 P0 GF10 rfl ?_
 refine' ϰi ?_;refine' ϰL ?_;refine' augAK P0 SF10 (Nat.le_of_ble_eq_true rfl) ?_;dsimp only [cA,nA];refine' nx ?_;refine' ϰt ?_ rfl
 refine' ϰA (by assumption) G0 P0 M0 (of_decide_eq_true rfl) ?_ rfl rfl;refine' ϰe ?_ rfl;refine' ϰc ?_
 refine' ϰs hG M8 (.c (.nm G4) .n rfl) rfl ?_;refine' ϰv ?_ ?_;exact δc f2 rfl;refine' ϰs hG M8 (.c (.nm G2) .n rfl) rfl ?_
 refine' ϰaU P2 ?_ ?_;exact δK hp rfl;refine' ϰX ?_;refine' ϰe ?_ rfl;refine' ϰc ?_;refine' WE.strC ?_
 refine' ϰs hG M9 (.c (.nm G3) .n rfl) rfl ?_;refine' WVs.strI ?_ ?_ ?_;omega;exact δi f3.2 rfl;refine' WBin.addS ?_ ?_;exact unk_len (by omega) (by exact δi f3.2 rfl)
 refine' ϰl ?_;refine' ϰax F.K (by exact δa Fd rfl) ?_ P0 P0 ?_;exact δM f4 hrs rfl;refine' ϰZ ?_;refine' nn ?_;refine' ϰd ?_;refine' asn ?_ rfl
 refine' ϰs hG M6 .n rfl ?_;refine' WVs.ba0 hcb1 (fun a2 => ?_);dsimp only [cA,nA];refine' setN S2 ?_;refine' asg .bo S1 rfl ?_
 refine' ϰf ?_;refine' nn ?_;refine' nn ?_;rotate_left;refine' tT ?_;refine' itc (.no (.vb (.nm G1) rfl)) ?_
 refine' qN (fun hc => ?_) (fun hc => ?_);refine' ϰh ?_;refine' ϰac (by assumption) M10 G0 P0 GF10 rfl ?_;refine' ϰi ?_
 refine' ϰL ?_;refine' augAK P0 SF10 (Nat.le_of_ble_eq_true rfl) ?_;dsimp only [cA,nA];refine' nx ?_;refine' ϰt ?_ rfl
 refine' ϰA (by assumption) G0 P0 M0 (of_decide_eq_true rfl) ?_ rfl rfl;refine' ϰe ?_ rfl;refine' ϰs hG M8 (.c (.nm G4) .n rfl) rfl ?_
 refine' ϰv ?_ ?_;exact δc f2 rfl;refine' ϰz (.c .st .n rfl) ?_;refine' ϰax F.K (by exact δa Fd rfl) ?_ P0 P0 ?_;exact δM f4 hrs rfl;refine' ϰZ ?_;refine' nn ?_
 refine' nn ?_;refine' nn ?_;refine' nn ?_;rotate_left;refine' ϰh ?_;refine' ϰt ?_ rfl
 refine' WE.extC (by assumption) G2 P2 ?_ rfl rfl rfl;refine' ϰa G4 ?_;refine' extK P2 (ω2 [] [_,_,_] (.Le (.a ν0 ν1) (.n 16777216)) (.Le ν1 (.n 2000)) (.Le (.a ν0 (.r (.a ν2 (.n 1)) 2000)) (.n 10000000)) f2 hp rfl) ?_;dsimp only [cA,nA];refine' ϰZ ?_
 refine' ϰd ?_;refine' itc (.eq (.nm G3) (.gl hG M4)) ?_;refine' qD (fun hc => ?_) (fun hc => (by exfalso;omega));refine' ϰh ?_
 refine' ϱe (by assumption) M9 ?_ rfl;refine' ϰq (by assumption) G0 P1 M3 GF3 rfl ?_;refine' ϰaE G0 P1 SF9 (Nat.le_of_ble_eq_true rfl) ?_
 dsimp only [cA,nA];refine' nx ?_;refine' ϰP ?_;refine' ϰs hG M7 (.c (.nm G2) .n rfl) rfl ?_;refine' WVs.bytesA P1 ?_ ?_
 (focus (simp only [List.length_append,List.length_map,List.length_cons,List.length_nil,List.length_replicate,ϱa];exact ω2 [] [_,_,_] (.Le (.a ν0 ν1) (.n 16777216)) (.Le ν1 (.n 2000)) (.Le (.a ν0 (.r (.a ν2 (.n 1)) 2000)) (.n 10000000)) f2 hp rfl))
 refine' ϰm ?_;refine' ϰm ?_;refine' ϰm ?_;refine' ϰm ?_;refine' ϰm ?_;refine' ϱJ ?_;refine' ϰm ?_
 refine' ϰx ?_;rotate_left;refine' tT ?_;refine' itc (.no (.vb (.nm G1) rfl)) ?_;refine' qN (fun hc => ?_) (fun hc => ?_);refine' ϰh ?_
 refine' ϰac (by assumption) M10 G0 P0 GF10 rfl ?_;refine' ϰi ?_;refine' ϰL ?_;refine' augAK P0 SF10 (Nat.le_of_ble_eq_true rfl) ?_
 dsimp only [cA,nA];refine' nx ?_;refine' ϰt ?_ rfl;refine' ϰA (by assumption) G0 P0 M0 (of_decide_eq_true rfl) ?_ rfl rfl
 refine' ϰe ?_ rfl;refine' ϰs hG M8 (.c (.nm G4) .n rfl) rfl ?_;refine' ϰv ?_ ?_;exact δc f2 rfl;refine' ϰz (.c .st .n rfl) ?_
 refine' ϰax F.K (by exact δa Fd rfl) ?_ P0 P0 ?_;exact δM f4 hrs rfl;refine' ϰZ ?_;refine' nn ?_;refine' nn ?_;refine' nn ?_;refine' nn ?_;rotate_left
 refine' ϰh ?_;refine' ϰt ?_ rfl;refine' WE.extC (by assumption) G2 P2 ?_ rfl rfl rfl;refine' ϰa G4 ?_
 refine' extK P2 (ω2 [] [_,_,_] (.Le (.a ν0 ν1) (.n 16777216)) (.Le ν1 (.n 2000)) (.Le (.a ν0 (.r (.a ν2 (.n 1)) 2000)) (.n 10000000)) f2 hp rfl) ?_;dsimp only [cA,nA];refine' ϰZ ?_;refine' ϰd ?_;refine' itc (.eq (.nm G3) (.gl hG M4)) ?_
 refine' qD (fun hc => (by exfalso;exact δH (m := 3) hc (by assumption) rfl)) (fun hc => ?_);refine' ϰf ?_;refine' nn ?_;refine' nn ?_;refine' nn ?_;refine' nn ?_;rotate_left
 refine' tT ?_;refine' itc (.vb (.nm G1) rfl) ?_;refine' ϰaZ (fun hc => ?_) (fun hc => ?_);refine' ϰh ?_
 refine' ϰac (by assumption) M10 G0 P0 GF10 rfl ?_;refine' ϰi ?_;refine' ϰL ?_;refine' augAK P0 SF10 (Nat.le_of_ble_eq_true rfl) ?_
 dsimp only [cA,nA];refine' ϰd ?_;refine' itn ?_;refine' ϰu ?_ rfl;refine' ϰs hG M8 (.c (.nm G2) .n rfl) rfl ?_;refine' ϰaU P2 ?_ ?_
 exact δK hp rfl;refine' ϰi ?_;refine' ϱW ?_;refine' isB ?_;refine' qD (fun hc => ?_) (fun hc => ?_);refine' ϰh ?_;refine' ϰt ?_ rfl
 refine' ϰA (by assumption) G0 P0 M0 (of_decide_eq_true rfl) ?_ rfl rfl;refine' ϰe ?_ rfl;refine' ϰs hG M8 (.c (.nm G2) .n rfl) rfl ?_
 refine' ϰaU P2 ?_ ?_;exact δK hp rfl;refine' ϰz (.c .st .n rfl) ?_;refine' ϰax F.K (by exact δa Fd rfl) ?_ P0 P0 ?_;exact δM f4 hrs rfl;refine' ϰZ ?_;refine' nn ?_
 refine' nn ?_;refine' ϰd ?_;refine' itc (.eq (.nm G3) (.gl hG M1)) ?_;refine' qD (fun hc => (by exfalso;exact δH (m := 2) hc (by assumption) rfl)) (fun hc => ?_)
 refine' ϰf ?_;refine' ϰd ?_;refine' asn ?_ rfl;refine' ϰs hG M6 (.c (.nm G4) .n rfl) rfl ?_
 (focus (refine' WVs.ba1 hcb1 ?_ (fun a3 => ?_);rotate_left;dsimp only [cA,nA]));refine' setN S2 ?_;refine' asg .bo S1 rfl ?_
 refine' ϰf ?_;refine' nn ?_;rotate_left;exact δc f2 rfl;refine' ϰf ?_;refine' nn ?_;refine' ϰd ?_
 refine' itc (.eq (.nm G3) (.gl hG M1)) ?_;refine' qD (fun hc => (by exfalso;exact δH (m := 2) hc (by assumption) rfl)) (fun hc => ?_);refine' ϰf ?_;refine' ϰd ?_
 refine' asn ?_ rfl;refine' ϰs hG M6 (.c (.nm G4) .n rfl) rfl ?_;(focus (refine' WVs.ba1 hcb1 ?_ (fun a3 => ?_);rotate_left;dsimp only [cA,nA]))
 refine' setN S2 ?_;refine' asg .bo S1 rfl ?_;refine' ϰf ?_;refine' nn ?_;rotate_left;exact δc f2 rfl;refine' ϰf ?_
 refine' ϰd ?_;refine' itc (.eq (.nm G3) (.gl hG M1)) ?_;refine' qD (fun hc => (by exfalso;exact δH (m := 2) hc (by assumption) rfl)) (fun hc => ?_);refine' ϰf ?_
 refine' ϰd ?_;refine' asn ?_ rfl;refine' ϰs hG M6 (.c (.nm G4) .n rfl) rfl ?_
 (focus (refine' WVs.ba1 hcb1 ?_ (fun a3 => ?_);rotate_left;dsimp only [cA,nA]));refine' setN S2 ?_;refine' asg .bo S1 rfl ?_
 refine' ϰf ?_;refine' nn ?_;rotate_left;exact δc f2 rfl;refine' tT ?_;refine' itc (.vb (.nm G1) rfl) ?_;refine' ϰaZ (fun hc => ?_) (fun hc => ?_)
 refine' ϰh ?_;refine' ϰac (by assumption) M10 G0 P0 GF10 rfl ?_;refine' ϰi ?_;refine' ϰL ?_
 refine' augAK P0 SF10 (Nat.le_of_ble_eq_true rfl) ?_;dsimp only [cA,nA];refine' ϰd ?_;refine' itn ?_;refine' ϰu ?_ rfl
 refine' ϰs hG M8 (.c (.nm G2) .n rfl) rfl ?_;refine' ϰaU P2 ?_ ?_;exact δK hp rfl;refine' ϰi ?_;refine' ϱW ?_;refine' isB ?_
 refine' qD (fun hc => ?_) (fun hc => ?_);refine' ϰh ?_;refine' ϰt ?_ rfl
 refine' ϰA (by assumption) G0 P0 M0 (of_decide_eq_true rfl) ?_ rfl rfl;refine' ϰe ?_ rfl;refine' ϰs hG M8 (.c (.nm G2) .n rfl) rfl ?_
 refine' ϰaU P2 ?_ ?_;exact δK hp rfl;refine' ϰz (.c .st .n rfl) ?_;refine' ϰax F.K (by exact δa Fd rfl) ?_ P0 P0 ?_;exact δM f4 hrs rfl;refine' ϰZ ?_;refine' nn ?_
 refine' nn ?_;refine' ϰd ?_;refine' itc (.eq (.nm G3) (.gl hG M1)) ?_;refine' qD (fun hc => ?_) (fun hc => (by exfalso;omega))
 refine' ϰh ?_;refine' ϱe (by assumption) M9 ?_ rfl;refine' ϰq (by assumption) G0 P0 M3 GF3 rfl ?_
 refine' ϰaE G0 P0 SF9 (Nat.le_of_ble_eq_true rfl) ?_;dsimp only [cA,nA];refine' nx ?_;refine' ϰP ?_;refine' ϰa G4 ?_;refine' ϰm ?_
 refine' ϰm ?_;refine' ϰm ?_;refine' ϱJ ?_;refine' ϰm ?_;refine' ϰx ?_;rotate_left;refine' ϰf ?_;refine' nn ?_
 refine' ϰd ?_;refine' itc (.eq (.nm G3) (.gl hG M1)) ?_;refine' qD (fun hc => ?_) (fun hc => (by exfalso;omega));refine' ϰh ?_
 refine' ϱe (by assumption) M9 ?_ rfl;refine' ϰq (by assumption) G0 P0 M3 GF3 rfl ?_;refine' ϰaE G0 P0 SF9 (Nat.le_of_ble_eq_true rfl) ?_
 dsimp only [cA,nA];refine' nx ?_;refine' ϰP ?_;refine' ϰa G4 ?_;refine' ϰm ?_;refine' ϰm ?_;refine' ϰm ?_
 refine' ϱJ ?_;refine' ϰm ?_;refine' ϰx ?_;rotate_left;refine' ϰf ?_;refine' ϰd ?_
 refine' itc (.eq (.nm G3) (.gl hG M1)) ?_;refine' qD (fun hc => ?_) (fun hc => (by exfalso;omega));refine' ϰh ?_
 refine' ϱe (by assumption) M9 ?_ rfl;refine' ϰq (by assumption) G0 P0 M3 GF3 rfl ?_;refine' ϰaE G0 P0 SF9 (Nat.le_of_ble_eq_true rfl) ?_
 dsimp only [cA,nA];refine' nx ?_;refine' ϰP ?_;refine' ϰa G4 ?_;refine' ϰm ?_;refine' ϰm ?_;refine' ϰm ?_
 refine' ϱJ ?_;refine' ϰm ?_;refine' ϰx ?_;rotate_left;exact ω1 [] [_,_] (.Le ν0 (.n 1000000)) (.Le (.a ν0 (.m 3 (.a ν1 (.n 1)))) (.n 900000)) hrs rfl
 all_goals first
  |(first | (have e := ϰao hfr hres (rs1 (by assumption) (by assumption))) | (have e := ϰao hfr hres (rs2 (by assumption) (by assumption))) | (have e := ϰao hfr hres (rs3 (by assumption) (by assumption) (by assumption))) | (have e := ϰao hfr hres (rs4 (by assumption) (by assumption) (by assumption))) | (have e := ϰao hfr hres (rs5 (by assumption) (by assumption))) | (have e := ϰao hfr hres (rs10 (by assumption) (by assumption))))
   subst e
   refine ⟨_,?_,h⟩
   exact ⟨LocLe.refl _,by (first | exact .cons P0 (.cons P0 (.skip _ (.refl _))) | exact .cons P0 (.cons P1 (.skip _ (.refl _))))⟩
  |(first | (have hres' := ϱG hfr hres (rs6 (by assumption) (by assumption) (by assumption))) | (have hres' := ϱG hfr hres (rs7 (by assumption) (by assumption) (by assumption))) | (have hres' := ϱG hfr hres (rs8 (by assumption) (by assumption))) | (have hres' := ϱG hfr hres (rs9 (by (first | exact .inr (Int.le_antisymm (ω1 [_] [] (.le ξ0 (.n 4)) (.eq ξ0 (.n 4)) (by assumption) rfl) (κ1 [_] [] (.le (.n 4) ξ0) (.eq ξ0 (.n 4)) [1,-1] (by assumption) rfl)) | exact .inl (Int.le_antisymm (ω1 [_] [] (.le ξ0 (.n 3)) (.eq ξ0 (.n 3)) (by assumption) rfl) (κ1 [_] [] (.le (.n 3) ξ0) (.eq ξ0 (.n 3)) [1,-1] (by assumption) rfl)))) (by assumption))) | (have hres' := ϱG hfr hres (rs11 (by assumption) (by assumption))) | (have hres' := ϱG hfr hres (rs12 (by assumption) (by assumption))) | (have hres' := ϱG hfr hres (rs13 (by assumption) (by assumption))) | (have hres' := ϱG hfr hres (rs14 (by omega) (by omega) (by omega) (by omega) (by omega) (by omega))))
   first
    |(refine ϱC (ι := RI) ⟨n1,_,_,a,_⟩ ⟨hres',⟨q0,q1,q2,q3,q4,q5⟩,?_,?_⟩ (Nat.lt_succ_self _) ⟨LM 24 _,by (first | exact .refl _ | exact .cons P1 (.cons P1 (.refl _)))⟩)
    |(refine ϱC (ι := RI) ⟨n1,_,_,a3,_⟩ ⟨hres',⟨q0,q1,q2,q3,q4,q5⟩,?_,?_⟩ (Nat.lt_succ_self _) ⟨LM 24 _,.cons P1 (.cons P1 (.cons P0 (.nil _)))⟩)
    |(refine ϱC (ι := RI) ⟨n1,_,_,a2,_⟩ ⟨hres',⟨q0,q1,q2,q3,q4,q5⟩,?_,?_⟩ (Nat.lt_succ_self _) ⟨LM 24 _,.cons P1 (.cons P1 (.cons P0 (.nil _)))⟩)
   all_goals (simp only [dropF,List.length_append,List.length_cons,List.length_nil];(first | exact ω1 [] [_,_] (.Le (.a (.n 0) (.r ν0 2000)) (.n 10000000)) (.Le (.a ν1 (.r (.a ν0 (.n 1)) 2000)) (.n 10000000)) hp rfl | exact ω2 [] [_,_,_] (.Le (.a (.a ν0 (.a (.n 0) (.n 1))) (.m 3 ν1)) (.n 900000)) (.Le ν0 (.a ν2 (.n 1))) (.Le (.a ν2 (.m 3 (.a ν1 (.n 1)))) (.n 900000)) f4 hrs rfl | exact ω2 [] [_,_,_] (.Le (.a ν0 (.m 3 ν1)) (.n 900000)) (.Le ν0 (.a ν2 (.n 1))) (.Le (.a ν2 (.m 3 (.a ν1 (.n 1)))) (.n 900000)) f4 hrs rfl | exact ω1 [] [_,_] (.Le (.a ν0 (.r ν1 2000)) (.n 10000000)) (.Le (.a ν0 (.r (.a ν1 (.n 1)) 2000)) (.n 10000000)) hp rfl | exact ω2 [] [_,_,_] (.Le (.a (.a ν0 ν1) (.r ν2 2000)) (.n 10000000)) (.Le ν1 (.n 2000)) (.Le (.a ν0 (.r (.a ν2 (.n 1)) 2000)) (.n 10000000)) f2 hp rfl | exact ω2 [] [_,_,_] (.Le (.a ν0 (.r ν1 2000)) (.n 10000000)) (.Le ν0 (.n 2000)) (.Le (.a ν2 (.r (.a ν1 (.n 1)) 2000)) (.n 10000000)) f2 hp rfl))
  | trace_state
end
noncomputable abbrev RS0 : RS := ⟨0,0,false,0,[],false,0,0⟩
inductive Reads (d : Y) (block check : Int) : RS → List (Y × Int) → RS → Prop
 | nil {n : Nat} {R R' : RS} (hi : RInv d block R) (hz : R.reasons.length ≤ 500000) (hn : n ≤ 4000) (h : readF d block check n false [] R = some (none,R')) : Reads d block check R [] R'
 | cons {n : Nat} {R R1 R' : RS} {y : Y} {L : List (Y × Int)} (hi : RInv d block R) (hz : R.reasons.length ≤ 500000) (hn : n ≤ 4000) (h : readF d block check n false [] R = some (some y,R1)) (hr : Reads d block check R1 L R') : Reads d block check R ((y,R1.good) :: L) R'
theorem Reads.inv {d : Y} {block check : Int} {R R' : RS} {L : List (Y × Int)} (hR : Reads d block check R L R') : ∃ n o R1 L1,n ≤ 4000 ∧ R.reasons.length ≤ 500000 ∧ RInv d block R ∧ readF d block check n false [] R = some (o,R1) ∧ (o = none → L = [] ∧ L1 = [] ∧ R1 = R') ∧ (∀ y,o = some y → Reads d block check R1 L1 R' ∧ L.map (·.1) = y :: L1.map (·.1) ∧ L1.length < L.length) := by
 cases hR with
 | nil hi hz hn h => exact ⟨_,none,_,[],hn,hz,hi,h,fun _ => ⟨rfl,rfl,rfl⟩,fun y e => by cases e⟩
 | cons hi hz hn h hr => exact ⟨_,some _,_,_,hn,hz,hi,h,fun e => (by cases e),fun y e => by cases e;exact ⟨hr,rfl,Nat.lt_succ_self _⟩⟩
noncomputable abbrev wF (fl : Addr) (block check len : Int) : List (Str × AV) := [("file",.ref fl),("block",.int block),("check",.int check),("length",.int len)]
noncomputable abbrev upF (size at_ room : Int) : Int := if at_ + room - 7 < size then at_ + room - 7 else size
noncomputable abbrev kdF (begun : Bool) (ended : Prop) [Decidable ended] : Int := if begun then (if ended then 4 else 3) else (if ended then 1 else 2)
noncomputable def addF (y : Y) (block check : Int) : Nat → Int → Int → Bool → List Y → Option (List Y × Int)
 | 0,_,_,_,_ => none
 | n + 1,at_,len,begun,ch =>
  let room0 := block - len % block
  let len1 := if room0 < 7 then len + ((List.replicate room0.toNat (0 : Int)).length : Int) else len
  let ch1 := if room0 < 7 then ch ++ [List.replicate room0.toNat 0] else ch
  let room := if room0 < 7 then block else room0
  let upto := upF y.length at_ room
  let f := fragY (kdF begun (upto = y.length)) (cut y (some at_) (some upto)) check
  if upto = y.length then some (ch1 ++ [f],len1 + f.length) else addF y block check n upto (len1 + f.length) true (ch1 ++ [f])
set_option maxHeartbeats 4000000
section
variable {c : Cx} {σ : St} {dp un : Nat} {Φ : AV → St → Prop}
theorem mkR_ok {d : Y} {block check : Int} (hK : c.K = mk0.heap_1 c.w.params) (hr : c.dp + 3 < 900) (hb0 : 8 ≤ block) (hb1 : block ≤ 65542) (hk : check = 1 ∨ check = 2) (hz : d.length ≤ 1000000)
  (h : ∀ x rl,Φ (.ref x) ⟨σ.loc,(x,.inst 233 (rsF d block check rl RS0)) :: (rl,.list []) :: σ.hp⟩) : WVs c (.raw (.ref 233)) [.bytes d,.int block,.int check] σ Φ :=
 WVs.cls (by rw [hK];exact (mkR _).1) (by rw [hK];exact (mkR _).2.1) (by rw [hK];exact (mkR _).2.2) fun x => rinit_ok (c := c.dull) hK (by exact δb hr rfl) hb0 hb1 hk hz (Pick.head _) fun rl => ⟨rfl,h x rl⟩
theorem mkRA_ok {d : Y} {block check : Int} {a : Addr} {rest : List (Addr × AO)} (hK : c.K = mk0.heap_1 c.w.params) (hr : c.dp + 3 < 900) (hb0 : 8 ≤ block) (hb1 : block ≤ 65542) (hk : check = 1 ∨ check = 2) (hz : d.length ≤ 1000000) (pk : Pick (a,.bytearray d) σ.hp rest)
  (h : ∀ x rl,Φ (.ref x) ⟨σ.loc,(x,.inst 233 (rsF d block check rl RS0)) :: (rl,.list []) :: rest⟩) : WVs c (.raw (.ref 233)) [.ref a,.int block,.int check] σ Φ :=
 WVs.cls (by rw [hK];exact (mkR _).1) (by rw [hK];exact (mkR _).2.1) (by rw [hK];exact (mkR _).2.2) fun x => rinitA_ok (c := c.dull) hK (by exact δb hr rfl) hb0 hb1 hk hz (Pick.head _) pk fun rl => ⟨rfl,h x rl⟩
structure RA where
 dn : List Y
 o : Option Y
 R : RS
 L : List (Y × Int)
theorem ϰaQ {d : Y} {block check : Int} {L : List (Y × Int)} {R' : RS} (hK : c.K = mk0.heap_1 c.w.params) (hr : dp + 7 < 900) (hcb0 : c.cb = true) (hbd : Byt d) (hb0 : 8 ≤ block) (hb1 : block ≤ 65542) (hk : check = 1 ∨ check = 2) (hz : d.length ≤ 2000) (hL : L.length ≤ 100000) (hR : Reads d block check RS0 L R') (h : ∀ l x,Φ (.tup [.ref l,.ref x]) ⟨σ.loc,(l,.list ((L.map (·.1)).map AV.bytes)) :: σ.hp⟩) : Enters c dp un 244 [.bytes d,.int block,.int check] σ Φ := by
 refine Enters.post ?_
 refine Enters.of (args := ["data","block","check"]) (more := ["reader","records","record"]) (G := [("LogReader",.raw (.ref 233))]) (foot := []) (rest := σ.hp) (by rw [hK];k_is) (by rw [hK];k_is) (room hr) rfl (fun vs e => by obtain ⟨v0,v1,v2,rfl⟩ := len3 e;rfl) (by decide) (by rfl) (by rfl) rfl rfl rfl (by rw [hK];exact (ϰg (gf_LogReader _) ϰD)) (by rfl) (List.Perm.refl _) ?_
 intro c' I
 have F : Fix mk0.heap_1 c' 6 := I.fix hK (by exact δb hr rfl)
 have hG := I.glob
 have hcb : c'.cb = c.cb := I.cb
 have Fd := F.dp
 have hc233 := ϱt F.K
 show WSs c' _ ⟨[("data",some (.bytes d)),("block",some (.int block)),("check",some (.int check)),("reader",none),("records",none),("record",none)],_⟩ _
 have hcb1 : c'.cb = true := hcb.trans hcb0
 obtain ⟨n,o,R1,L1,hn,hz1,hi1,hr1,hA,hB⟩ := hR.inv
 refine' asn ?_ rfl;refine' ϰs hG M0 (.c (.nm G0) (.c (.nm G1) (.c (.nm G2) .n rfl) rfl) rfl) rfl ?_
 refine' mkR_ok F.K (by exact δa Fd rfl) hb0 hb1 hk (by exact δc hz rfl) (fun x rl => ?_);dsimp only [cA,nA];refine' setN S3 ?_;refine' asn ?_ rfl;refine' ϰF ?_
 refine' ϰl ?_;refine' ϱr (zl rfl) (fun _ => ?_);dsimp only [cA,nA];refine' setN S4 ?_;refine' asn ?_ rfl
 refine' ϰA (by assumption) G3 P1 M3 (of_decide_eq_true rfl) ?_ rfl rfl;refine' ϰl ?_
 refine' read_ok F.K (by exact δa Fd rfl) hcb1 hbd hi1 hk hn hz1 hr1 P1 P1 ?_;dsimp only [cA,nA];refine' setN S5 ?_;refine' ϰh ?_;rotate_left
 rename_i l
 refine ϰab (ι := RA) (P := fun i => (i.o = none → i.R = R' ∧ i.dn = L.map (·.1)) ∧ (∀ y,i.o = some y → Reads d block check i.R i.L R' ∧ i.dn ++ y :: i.L.map (·.1) = L.map (·.1))) (μ := fun i => match i.o with | none => 0 | some _ => i.L.length + 1) (I := fun i => ⟨[("data",some (.bytes d)),("block",some (.int block)),("check",some (.int check)),("reader",some (.ref x)),("records",some (.ref l)),("record",some (optA i.o))],[(x,.inst 233 (rsF d block check rl i.R)),(rl,.list i.R.reasons),(l,.list (i.dn.map AV.bytes))]⟩) ⟨[],o,R1,L1⟩ ⟨fun e => ⟨(hA e).2.2,by rw [(hA e).1];rfl⟩,fun y e => ⟨(hB y e).1,(hB y e).2.1.symm⟩⟩ ⟨.refl _,.cons P0 (.cons P0 (.cons P0 (.refl _)))⟩ ?_
 clear hA hB hr1 hi1 hz1 hn hR
 rintro ⟨dn,o,R,L2⟩ ⟨hA,hB⟩
 dsimp only at hA hB
 cases o with
 | none =>
  obtain ⟨rfl,rfl⟩ := hA rfl
  show WT c' _ ⟨[("data",some (.bytes d)),("block",some (.int block)),("check",some (.int check)),("reader",some (.ref x)),("records",some (.ref l)),("record",some (.none))],[(x,.inst 233 (rsF d block check rl R)),(rl,.list R.reasons),(l,.list ((L.map (·.1)).map AV.bytes))]⟩ _
  refine' ϰu ?_ rfl;refine' ϰa G5 ?_;refine' ϰaA ?_;refine' ϰaW ?_;refine' isB ?_
  refine' qN (fun hc => (by exfalso;revert hc;decide)) (fun hc => ?_);refine' nx ?_;refine' ϰP ?_;refine' ϰG ?_
  refine' ϰz (.c (.nm G4) (.c (.nm G3) .n rfl) rfl) ?_;refine' tupK (zl rfl) ?_;refine' ϰm ?_;refine' ϰx ?_;rotate_left
  refine ⟨_,?_,h l x⟩
  exact ⟨LocLe.refl _,.cons P2 (.skip _ (.skip _ (.refl _)))⟩
 | some y =>
  obtain ⟨hr,hd⟩ := hB y rfl
  have hdn : dn.length ≤ 100000 := by
   have := congrArg List.length hd
   simp only [List.length_append,List.length_cons,List.length_map] at this
   exact ω2 [] [_,_,_] (.Le ν0 (.n 100000)) (.Eq (.a ν0 (.a ν1 (.n 1))) ν2) (.Le ν2 (.n 100000)) this hL rfl
  obtain ⟨n,o1,R1,L1,hn,hz1,hi1,hr1,hA1,hB1⟩ := hr.inv
  show WT c' _ ⟨[("data",some (.bytes d)),("block",some (.int block)),("check",some (.int check)),("reader",some (.ref x)),("records",some (.ref l)),("record",some (.bytes y))],[(x,.inst 233 (rsF d block check rl R)),(rl,.list R.reasons),(l,.list (dn.map AV.bytes))]⟩ _
  refine' ϰu ?_ rfl;refine' ϰa G5 ?_;refine' ϰaA ?_;refine' ϰaW ?_;refine' isB ?_
  refine' qN (fun hc => ?_) (fun hc => (by exfalso;cases hc));refine' ϰh ?_;refine' ϰt ?_ rfl;refine' ϱw ?_ rfl rfl rfl
  refine' ϰa G4 ?_;refine' appK1 P2 ?_;refine' ϰa G5 ?_;refine' appK2 P2 (lmp (by omega)) ?_;dsimp only [cA,nA];refine' ϰZ ?_
  refine' ϰd ?_;refine' asn ?_ rfl;refine' ϰA (by assumption) G3 P1 M3 (of_decide_eq_true rfl) ?_ rfl rfl;refine' ϰl ?_
  refine' read_ok F.K (by exact δa Fd rfl) hcb1 hbd hi1 hk hn hz1 hr1 P1 P1 ?_;dsimp only [cA,nA];refine' setN S5 ?_;refine' ϰf ?_;rotate_left
  refine ϱC (ι := RA) ⟨dn ++ [y],o1,R1,L1⟩ ?_ ?_ ?_
  ·refine ⟨fun e => ⟨(hA1 e).2.2,?_⟩,fun z e => ⟨(hB1 z e).1,?_⟩⟩
   ·dsimp only;rw [← hd,(hA1 e).1];rfl
   ·dsimp only;rw [← hd,(hB1 z e).2.1];simp
  ·cases o1 with
   | none => exact Nat.succ_pos _
   | some z => exact Nat.succ_lt_succ (hB1 z rfl).2.2
  ·simp only [List.map_append,List.map_cons,List.map_nil]
   exact ⟨.refl _,.refl _⟩
end
set_option maxHeartbeats 4000000
section
variable {c : Cx} {σ : St} {dp un : Nat} {Φ : AV → St → Prop}
theorem winit_ok {block check len : Int} {x fl : Addr} {rest : List (Addr × AO)} (hK : c.K = mk0.heap_1 c.w.params) (hr : dp + 2 < 900) (hb0 : 8 ≤ block) (hb1 : block ≤ 65542) (hk : check = 1 ∨ check = 2) (hl : 0 ≤ len) (pk : Pick (x,.inst 184 []) σ.hp rest) (h : Φ .none ⟨σ.loc,(x,.inst 184 (wF fl block check len)) :: rest⟩) : Enters c dp un 160 [.ref x,.ref fl,.int block,.int check,.int len] σ Φ := by
 refine Enters.post ?_
 refine Enters.of (args := ["self","file","block","check","length"]) (more := []) (G := [("check_block",.raw (.ref 132)),("check_kind",.raw (.ref 139))]) (foot := [(x,.inst 184 [])]) (rest := rest) (by rw [hK];k_is) (by rw [hK];k_is) (room hr) rfl (fun vs e => by obtain ⟨v0,v1,v2,v3,v4,rfl⟩ := len5 e;rfl) (by decide) (by rfl) (by rfl) rfl rfl rfl (by rw [hK];exact (ϰg (ϰam _) (ϰg (ϰav _) ϰD))) (by rfl) pk.perm ?_
 intro c' I
 have F : Fix mk0.heap_1 c' 1 := I.fix hK (by exact δb hr rfl)
 have hG := I.glob
 have hcb : c'.cb = c.cb := I.cb
 have Fd := F.dp
 have hc184 := ϰan F.K
 show WSs c' _ ⟨[("self",some (.ref x)),("file",some (.ref fl)),("block",some (.int block)),("check",some (.int check)),("length",some (.int len))],_⟩ _
 refine' ϰh ?_;refine' ϰt ?_ rfl;refine' ϰs hG M0 (.c (.nm G2) .n rfl) rfl ?_;refine' ϰw ?_
 refine' ϰay F.K (by exact δa Fd rfl) hb0 hb1 ?_;refine' ϰZ ?_;refine' nx ?_;refine' ϰt ?_ rfl
 refine' ϰs hG M1 (.c (.nm G3) .n rfl) rfl ?_;refine' ϰw ?_;refine' ϰaH F.K (by exact δa Fd rfl) hk ?_;refine' ϰZ ?_;refine' ϰd ?_
 refine' itc (.lt (.nm G4) .i) ?_;refine' qD (fun hc => (by exfalso;exact β2 [_] [] (.lt ξ0 (.n 0)) (.le (.n 0) ξ0) hc hl rfl)) (fun hc => ?_);refine' ϰf ?_;refine' nx ?_
 refine' ϰJ (by assumption) M0 ?_ rfl;refine' ϰa G1 ?_;refine' ϱI G0 P0 (of_decide_eq_true rfl) (Nat.le_of_ble_eq_true rfl) ?_
 dsimp only [cA,nA];refine' nx ?_;refine' ϰJ (by assumption) M1 ?_ rfl;refine' ϰa G2 ?_
 refine' ϱI G0 P0 (of_decide_eq_true rfl) (Nat.le_of_ble_eq_true rfl) ?_;dsimp only [cA,nA];refine' nx ?_;refine' ϰJ (by assumption) M2 ?_ rfl
 refine' ϰa G3 ?_;refine' ϱI G0 P0 (of_decide_eq_true rfl) (Nat.le_of_ble_eq_true rfl) ?_;dsimp only [cA,nA];refine' nx ?_
 refine' ϰJ (by assumption) M3 ?_ rfl;refine' ϰa G4 ?_;refine' ϱI G0 P0 (of_decide_eq_true rfl) (Nat.le_of_ble_eq_true rfl) ?_
 dsimp only [cA,nA];refine' nn ?_;refine' ϱg ?_;rotate_left
 refine ⟨_,?_,h⟩
 exact ⟨LocLe.refl _,.refl _⟩
theorem mkW_ok {block check len : Int} {fl : Addr} (hK : c.K = mk0.heap_1 c.w.params) (hr : c.dp + 3 < 900) (hb0 : 8 ≤ block) (hb1 : block ≤ 65542) (hk : check = 1 ∨ check = 2) (hl : 0 ≤ len)
  (h : ∀ x,Φ (.ref x) ⟨σ.loc,(x,.inst 184 (wF fl block check len)) :: σ.hp⟩) : WVs c (.raw (.ref 184)) [.ref fl,.int block,.int check,.int len] σ Φ :=
 WVs.cls (by rw [hK];exact (mkW _).1) (by rw [hK];exact (mkW _).2.1) (by rw [hK];exact (mkW _).2.2) fun x => winit_ok (c := c.dull) hK (by exact δb hr rfl) hb0 hb1 hk hl (Pick.head _) ⟨rfl,h x⟩
theorem put_w_ok {block check len : Int} {x fl : Addr} {ch : List Y} {r1 rest : List (Addr × AO)} {y : Y} (hK : c.K = mk0.heap_1 c.w.params) (hr : dp + 1 < 900) (hz : ch.length ≤ 1000000) (hy : y.length ≤ 1000000) (pk1 : Pick (x,.inst 184 (wF fl block check len)) σ.hp r1) (pk2 : Pick (fl,.list (ch.map AV.bytes)) r1 rest) (h : Φ .none ⟨σ.loc,(x,.inst 184 (wF fl block check (len + y.length))) :: (fl,.list ((ch ++ [y]).map AV.bytes)) :: rest⟩) : Enters c dp un 167 [.ref x,.bytes y] σ Φ := by
 refine Enters.post ?_
 refine Enters.of (args := ["self","octets"]) (more := []) (G := [("len",.raw (.builtin "len"))]) (foot := [(x,.inst 184 (wF fl block check len)),(fl,.list (ch.map AV.bytes))]) (rest := rest) (by rw [hK];k_is) (by rw [hK];k_is) (room hr) rfl (fun vs e => by obtain ⟨v0,v1,rfl⟩ := len2 e;rfl) (by decide) (by rfl) (by rfl) rfl rfl rfl (by rw [hK];exact (ϰg (ϰaD _) ϰD)) (by rfl) (pk1.perm.trans (pk2.perm.cons _)) ?_
 intro c' I
 have F : Fix mk0.heap_1 c' 0 := I.fix hK (by exact δb hr rfl)
 have hG := I.glob
 have hcb : c'.cb = c.cb := I.cb
 have Fd := F.dp
 have hc184 := ϰan F.K
 show WSs c' _ ⟨[("self",some (.ref x)),("octets",some (.bytes y))],_⟩ _
 refine' ϰh ?_;refine' ϰt ?_ rfl;refine' ϱw ?_ rfl rfl rfl;refine' ϰq (by assumption) G0 P0 M0 GF0 rfl ?_;refine' appK1 P1 ?_
 refine' ϰa G1 ?_;refine' appK2 P1 (lmp (by omega)) ?_;dsimp only [cA,nA];refine' ϰZ ?_;refine' nx ?_
 refine' ϰac (by assumption) M3 G0 P1 GF3 rfl ?_;refine' ϰs hG M0 (.c (.nm G1) .n rfl) rfl ?_;refine' ϰv ?_ ?_;exact δc hy rfl;refine' ϰL ?_
 refine' augAK P1 SF3 (Nat.le_of_ble_eq_true rfl) ?_;dsimp only [cA,nA];refine' nn ?_;refine' ϱg ?_;rotate_left
 refine ⟨_,?_,h⟩
 simp only [List.map_append,List.map_cons,List.map_nil]
 exact ⟨LocLe.refl _,.refl _⟩
structure WI where
 n : Nat
 at_ : Int
 len : Int
 b : Bool
 e : Bool
 ch : List Y
theorem addF_end {y : Y} {block check at_ len room len1 : Int} {n : Nat} {b : Bool} {ch ch1 : List Y} {res : List Y × Int} (h : addF y block check (n + 1) at_ len b ch = some res)
  (h1 : (room = block ∧ len1 = len + ((List.replicate (block - len % block).toNat (0 : Int)).length : Int) ∧ ch1 = ch ++ [List.replicate (block - len % block).toNat 0] ∧ block - len % block < 7) ∨ (room = block - len % block ∧ len1 = len ∧ ch1 = ch ∧ ¬ block - len % block < 7)) (e : upF y.length at_ room = y.length) (k : Int) (hk : k = kdF b True) :
  res = (ch1 ++ [fragY k (cut y (some at_) (some (upF y.length at_ room))) check],len1 + (fragY k (cut y (some at_) (some (upF y.length at_ room))) check).length) := by
 subst hk
 rcases h1 with ⟨rfl,rfl,rfl,hq⟩ | ⟨rfl,rfl,rfl,hq⟩
 ·simp only [addF,if_pos hq,e,if_true] at h
  cases h;simp only [e]
 ·simp only [addF,if_neg hq,e,if_true] at h
  cases h;simp only [e]
theorem addF_go {y : Y} {block check at_ len room len1 : Int} {n : Nat} {b : Bool} {ch ch1 : List Y} {res : List Y × Int} (h : addF y block check (n + 1) at_ len b ch = some res)
  (h1 : (room = block ∧ len1 = len + ((List.replicate (block - len % block).toNat (0 : Int)).length : Int) ∧ ch1 = ch ++ [List.replicate (block - len % block).toNat 0] ∧ block - len % block < 7) ∨ (room = block - len % block ∧ len1 = len ∧ ch1 = ch ∧ ¬ block - len % block < 7)) (e : ¬ upF y.length at_ room = y.length) (k : Int) (hk : k = kdF b False) :
  addF y block check n (upF y.length at_ room) (len1 + (fragY k (cut y (some at_) (some (upF y.length at_ room))) check).length) true (ch1 ++ [fragY k (cut y (some at_) (some (upF y.length at_ room))) check]) = some res := by
 subst hk
 rcases h1 with ⟨rfl,rfl,rfl,hq⟩ | ⟨rfl,rfl,rfl,hq⟩
 ·simp only [addF,if_pos hq,if_neg e] at h
  simpa only [kdF,if_neg e,if_false] using h
 ·simp only [addF,if_neg hq,if_neg e] at h
  simpa only [kdF,if_neg e,if_false] using h
theorem ϰB (k : Int) (y : Y) (check : Int) : (fragY k y check).length = y.length + 7 := by
 simp only [fragY,List.length_append,List.length_cons,List.length_nil,ϱa];exact η0 [] [_] (.Eq (.a (.a (.n 4) (.a (.a (.n 0) (.n 1)) (.n 1))) (.a ν0 (.n 1))) (.a ν0 (.n 7))) [1] [1] rfl
noncomputable abbrev LI (x : Addr) (y : Y) (at1 : Int) (b e : Bool) (r u k : Option AV) : List (Str × Option AV) := [("self",some (.ref x)),("octets",some (.bytes y)),("size",some (.int y.length)),("at",some (.int at1)),("begun",some (.bool b)),("ended",some (.bool e)),("room",r),("upto",u),("kind",k)]
noncomputable abbrev D1 (block len room len1 : Int) (ch ch1 : List Y) : Prop := (room = block ∧ len1 = len + ((List.replicate (block - len % block).toNat (0 : Int)).length : Int) ∧ ch1 = ch ++ [List.replicate (block - len % block).toNat 0] ∧ block - len % block < 7) ∨ (room = block - len % block ∧ len1 = len ∧ ch1 = ch ∧ ¬ block - len % block < 7)
noncomputable def PA (x fl : Addr) (y : Y) (block check at1 len : Int) (b : Bool) (ch : List Y) (σ1 : St) : Prop := ∃ room len1 ch1,D1 block len room len1 ch ch1 ∧ Le σ1 ⟨LI x y at1 b false (some (.int room)) none none,[(x,.inst 184 (wF fl block check len1)),(fl,.list (ch1.map AV.bytes))]⟩
theorem PA_open {x fl : Addr} {y : Y} {block check at1 len : Int} {b : Bool} {ch : List Y} {rest : List Stmt} {Ψ : AFl → St → Prop} (hl : 0 ≤ len) (k : ∀ room len1 ch1,D1 block len room len1 ch ch1 → 0 ≤ len1 → ch1.length ≤ ch.length + 1 → WSs c rest ⟨LI x y at1 b false (some (.int room)) none none,[(x,.inst 184 (wF fl block check len1)),(fl,.list (ch1.map AV.bytes))]⟩ Ψ) : ∀ σ1,PA x fl y block check at1 len b ch σ1 → WSs c rest σ1 Ψ := fun σ1 ⟨r,l,q,h,le⟩ => W.pre le (k r l q h (by rcases h with ⟨_,rfl,_⟩ | ⟨_,rfl,_⟩ <;> omega) (by rcases h with ⟨_,_,rfl,_⟩ | ⟨_,_,rfl,_⟩;simp;exact κ0 [] [_] (.Le ν0 (.a ν0 (.n 1))) [1] rfl))
theorem kdF_in (b : Bool) (p : Prop) [Decidable p] : 0 ≤ kdF b p ∧ kdF b p < 256 := by unfold kdF;split <;> split <;> decide
noncomputable def PB (x fl : Addr) (y : Y) (block check at1 len : Int) (b : Bool) (ch : List Y) (room : Int) (σ1 : St) : Prop := ∃ k,k = kdF b (upF y.length at1 room = y.length) ∧ Le σ1 ⟨LI x y at1 b (decide (upF y.length at1 room = y.length)) (some (.int room)) (some (.int (upF y.length at1 room))) (some (.int k)),[(x,.inst 184 (wF fl block check len)),(fl,.list (ch.map AV.bytes))]⟩
theorem PB_open {x fl : Addr} {y : Y} {block check at1 len room : Int} {b : Bool} {ch : List Y} {rest : List Stmt} {Ψ : AFl → St → Prop} (k : ∀ k,k = kdF b (upF y.length at1 room = y.length) → 0 ≤ k → k < 256 → WSs c rest ⟨LI x y at1 b (decide (upF y.length at1 room = y.length)) (some (.int room)) (some (.int (upF y.length at1 room))) (some (.int k)),[(x,.inst 184 (wF fl block check len)),(fl,.list (ch.map AV.bytes))]⟩ Ψ) : ∀ σ1,PB x fl y block check at1 len b ch room σ1 → WSs c rest σ1 Ψ := fun σ1 ⟨q,h,le⟩ => W.pre le (k q h (by rw [h];exact (kdF_in _ _).1) (by rw [h];exact (kdF_in _ _).2))
theorem add_ok {block check len : Int} {x fl : Addr} {ch : List Y} {r1 rest : List (Addr × AO)} {y : Y} {n : Nat} {res : List Y × Int} (hK : c.K = mk0.heap_1 c.w.params) (hr : dp + 5 < 900) (hb0 : 8 ≤ block) (hb1 : block ≤ 1000) (hk : check = 1 ∨ check = 2) (hl : 0 ≤ len) (hy : y.length ≤ 1000) (hz : ch.length ≤ 10000) (hn : n ≤ 4000) (hres : addF y block check n 0 len false ch = some res) (pk1 : Pick (x,.inst 184 (wF fl block check len)) σ.hp r1) (pk2 : Pick (fl,.list (ch.map AV.bytes)) r1 rest) (h : Φ .none ⟨σ.loc,(x,.inst 184 (wF fl block check res.2)) :: (fl,.list (res.1.map AV.bytes)) :: rest⟩) : Enters c dp un 174 [.ref x,.bytes y] σ Φ := by
 refine Enters.post ?_
 refine Enters.of (args := ["self","octets"]) (more := ["size","at","begun","ended","room","upto","kind"]) (G := [("len",.raw (.builtin "len")),("min",.raw (.builtin "min")),("bytes",.raw (.type "bytes")),("HEADER",.int 7),("LAST",.int 4),("MIDDLE",.int 3),("FULL",.int 1),("FIRST",.int 2),("make_fragment",.raw (.ref 146))]) (foot := [(x,.inst 184 (wF fl block check len)),(fl,.list (ch.map AV.bytes))]) (rest := rest) (by rw [hK];k_is) (by rw [hK];k_is) (room hr) rfl (fun vs e => by obtain ⟨v0,v1,rfl⟩ := len2 e;rfl) (by decide) (by rfl) (by rfl) rfl rfl rfl (by rw [hK];exact (ϰg (ϰaD _) (ϰg (gf_min _) (ϰg (ϰag _) (ϰg (gf_HEADER _) (ϰg (gf_LAST _) (ϰg (gf_MIDDLE _) (ϰg (gf_FULL _) (ϰg (gf_FIRST _) (ϰg (ϱO _) ϰD)))))))))) (by rfl) (pk1.perm.trans (pk2.perm.cons _)) ?_
 intro c' I
 have F : Fix mk0.heap_1 c' 4 := I.fix hK (by exact δb hr rfl)
 have hG := I.glob
 have hcb : c'.cb = c.cb := I.cb
 have Fd := F.dp
 have hc184 := ϰan F.K
 show WSs c' _ ⟨[("self",some (.ref x)),("octets",some (.bytes y)),("size",none),("at",none),("begun",none),("ended",none),("room",none),("upto",none),("kind",none)],_⟩ _
 refine' asn ?_ rfl;refine' ϰs hG M0 (.c (.nm G1) .n rfl) rfl ?_;refine' ϰv ?_ ?_;exact δc hy rfl;refine' setN S2 ?_;dsimp only [cA,nA]
 refine' asg .i S3 rfl ?_;refine' asg .bo S4 rfl ?_;refine' asg .bo S5 rfl ?_;refine' ϰh ?_
 rotate_left
 refine ϰab (ι := WI) (P := fun i => (i.e = false → addF y block check i.n i.at_ i.len i.b i.ch = some res) ∧ (i.e = true → i.ch = res.1 ∧ i.len = res.2) ∧ 0 ≤ i.len ∧ i.ch.length + 2 * i.n ≤ 20000) (μ := fun i => if i.e then 0 else i.n + 1) (I := fun i => ⟨[("self",some (.ref x)),("octets",some (.bytes y)),("size",some (.int y.length)),("at",some (.int i.at_)),("begun",some (.bool i.b)),("ended",some (.bool i.e)),("room",none),("upto",none),("kind",none)],[(x,.inst 184 (wF fl block check i.len)),(fl,.list (i.ch.map AV.bytes))]⟩) ⟨n,0,len,false,false,ch⟩ ⟨fun _ => hres,(fun e => nomatch e),hl,by dsimp only;exact κ2 [] [_,_] (.Le (.a ν0 (.m 2 ν1)) (.n 20000)) (.Le ν1 (.n 4000)) (.Le ν0 (.n 10000)) [1,2,1] hn hz rfl⟩ ⟨.refl _,.refl _⟩ ?_
 clear hres hl hz pk1 pk2
 rintro ⟨n1,at1,len,b,e,ch⟩ ⟨hA,hB,hl,hz⟩
 dsimp only at hA hB hl hz
 cases e with
 | true =>
  obtain ⟨rfl,rfl⟩ := hB rfl
  show WT c' _ ⟨[("self",some (.ref x)),("octets",some (.bytes y)),("size",some (.int y.length)),("at",some (.int at1)),("begun",some (.bool b)),("ended",some (.bool true)),("room",none),("upto",none),("kind",none)],[(x,.inst 184 (wF fl block check res.2)),(fl,.list (res.1.map AV.bytes))]⟩ _
  refine' ϰU (.no (.vb (.nm G5) rfl)) ?_;refine' qN (fun hc => (by exfalso;revert hc;decide)) (fun hc => ?_);refine' nn ?_;refine' ϱg ?_
  rotate_left
  refine ⟨_,?_,h⟩
  exact ⟨LocLe.refl _,.refl _⟩
 | false =>
  have hres := hA rfl
  cases n1 with
  | zero => cases hres
  | succ n1 =>
  have hm0 := Int.emod_nonneg len (show block ≠ 0 by exact fun hq => δF hb0 hq rfl)
  have hm1 := Int.emod_lt_of_pos len (show 0 < block by exact δl hb0 rfl)
  show WT c' _ ⟨[("self",some (.ref x)),("octets",some (.bytes y)),("size",some (.int y.length)),("at",some (.int at1)),("begun",some (.bool b)),("ended",some (.bool false)),("room",none),("upto",none),("kind",none)],[(x,.inst 184 (wF fl block check len)),(fl,.list (ch.map AV.bytes))]⟩ _
  refine' ϰU (.no (.vb (.nm G5) rfl)) ?_;refine' qN (fun hc => ?_) (fun hc => (by exfalso;revert hc;decide));refine' asn ?_ rfl
  refine' ϰc ?_;refine' ϰq (by assumption) G0 P0 M1 GF1 rfl ?_;refine' ϰc ?_;refine' ϰq (by assumption) G0 P0 M3 GF3 rfl ?_
  refine' ϰq (by assumption) G0 P0 M1 GF1 rfl ?_;refine' ϰC ?_ ?_;exact Int.lt_of_le_of_lt hm0 hm1;refine' ϰO ?_;refine' setN S6 ?_;dsimp only [cA,nA]
  refine' joinN (st := .If _ _ _ _) (σ := ⟨[("self",_),("octets",_),("size",_),("at",_),("begun",_),("ended",_),("room",some _),("upto",none),("kind",none)],_⟩) (PA x fl y block check at1 len b ch) ?_ ?_
  refine' itp (.lt (.nm G6) (.gl hG M3)) ?_;refine' qD (fun hc => ?_) (fun hc => ?_);refine' ϰh ?_;refine' ϰt ?_ rfl
  refine' ϰA (by assumption) G0 P0 M0 (of_decide_eq_true rfl) ?_ rfl rfl;refine' ϰe ?_ rfl;refine' ϰs hG M2 (.c (.nm G6) .n rfl) rfl ?_
  refine' WVs.bytesN ?_ ?_ ?_;exact δE hm1 rfl;exact ω1 [_,_] [] (.le (.s ξ0 ξ1) (.n 16777216)) (.lt (.s ξ0 ξ1) (.n 7)) hc rfl;refine' ϰl ?_
  (focus (refine' put_w_ok F.K (by exact δa Fd rfl) ?_ ?_ P0 P0 ?_;rotate_left;rotate_left;dsimp only [cA,nA]));refine' ϰZ ?_;refine' ϰd ?_
  refine' asn ?_ rfl;refine' ϰq (by assumption) G0 P0 M1 GF1 rfl ?_;refine' setN S6 ?_;dsimp only [cA,nA];refine' ϰf ?_
  (focus (refine' jK_next ?_;exact ⟨_,_,_,Or.inl ⟨rfl,rfl,rfl,by assumption⟩,⟨.refl _,.refl _⟩⟩))
  exact ω1 [] [_,_] (.Le ν0 (.n 1000000)) (.Le (.a ν0 (.m 2 (.a ν1 (.n 1)))) (.n 20000)) hz rfl;(focus (simp only [List.length_replicate];exact ω2 [_,_] [_] (.Le ν0 (.n 1000000)) (.lt (.s ξ0 ξ1) (.n 7)) (.eq (.c ν0) (.s ξ0 ξ1)) hc (Int.toNat_of_nonneg (δE hm1 rfl)) rfl));refine' ϰf ?_
  (focus (refine' jK_next ?_;exact ⟨_,_,_,Or.inr ⟨rfl,rfl,rfl,by assumption⟩,⟨.refl _,.refl _⟩⟩))
  refine' PA_open hl (fun room len1 ch1 h1 hl1 hz1 => ?_);refine' asn ?_ rfl
  refine' ϰs hG M1 (.c (.nm G2) (.c (.sub (.add (.nm G3) (.nm G6)) (.gl hG M3)) .n rfl) rfl) rfl ?_;refine' ϰbf ?_;refine' setN S7 ?_
  dsimp only [cA,nA];refine' asn ?_ rfl;refine' WE.cmp ?_ rfl;refine' ϰa G7 ?_;refine' ϰa G2 ?_;refine' ϰaj ?_;refine' setN S5 ?_
  dsimp only [cA,nA]
  refine' joinN (st := .If _ _ _ _) (σ := ⟨[("self",_),("octets",_),("size",_),("at",_),("begun",_),("ended",_),("room",some _),("upto",some _),("kind",none)],_⟩) (PB x fl y block check at1 len1 b ch1 room) ?_ ?_
  refine' itp (.vb (.nm G4) rfl) ?_;refine' ϰaZ (fun hc => ?_) (fun hc => ?_);refine' asn ?_ rfl;refine' WE.ifexp ?_
  refine' ϰU (.vb (.nm G5) rfl) ?_;refine' qD (fun hc => ?_) (fun hc => ?_);refine' ϱc hG M4 ?_;refine' setN S8 ?_;dsimp only [cA,nA]
  refine' ϰf ?_
  (focus (refine' jK_next ?_;first | ((refine ⟨_,?_,⟨.refl _,.refl _⟩⟩);(first | (rw [show b = true by assumption,kdF,if_pos rfl];first | (rw [if_pos (by assumption)];done) | (rw [if_neg (by assumption)];done)) | (rw [show b = false by assumption,kdF,if_neg (by decide)];first | (rw [if_pos (by assumption)];done) | (rw [if_neg (by assumption)];done))))))
  refine' ϱc hG M5 ?_;refine' setN S8 ?_;dsimp only [cA,nA];refine' ϰf ?_
  (focus (refine' jK_next ?_;first | ((refine ⟨_,?_,⟨.refl _,.refl _⟩⟩);(first | (rw [show b = true by assumption,kdF,if_pos rfl];first | (rw [if_pos (by assumption)];done) | (rw [if_neg (by assumption)];done)) | (rw [show b = false by assumption,kdF,if_neg (by decide)];first | (rw [if_pos (by assumption)];done) | (rw [if_neg (by assumption)];done))))))
  refine' asn ?_ rfl;refine' WE.ifexp ?_;refine' ϰU (.vb (.nm G5) rfl) ?_;refine' qD (fun hc => ?_) (fun hc => ?_);refine' ϱc hG M6 ?_
  refine' setN S8 ?_;dsimp only [cA,nA];refine' ϰf ?_
  (focus (refine' jK_next ?_;first | ((refine ⟨_,?_,⟨.refl _,.refl _⟩⟩);(first | (rw [show b = true by assumption,kdF,if_pos rfl];first | (rw [if_pos (by assumption)];done) | (rw [if_neg (by assumption)];done)) | (rw [show b = false by assumption,kdF,if_neg (by decide)];first | (rw [if_pos (by assumption)];done) | (rw [if_neg (by assumption)];done))))))
  refine' ϱc hG M7 ?_;refine' setN S8 ?_;dsimp only [cA,nA];refine' ϰf ?_
  (focus (refine' jK_next ?_;first | ((refine ⟨_,?_,⟨.refl _,.refl _⟩⟩);(first | (rw [show b = true by assumption,kdF,if_pos rfl];first | (rw [if_pos (by assumption)];done) | (rw [if_neg (by assumption)];done)) | (rw [show b = false by assumption,kdF,if_neg (by decide)];first | (rw [if_pos (by assumption)];done) | (rw [if_neg (by assumption)];done))))))
  refine' PB_open (fun k hk1 hk2 hk3 => ?_);refine' ϰh ?_;refine' ϰt ?_ rfl
  refine' ϰA (by assumption) G0 P0 M0 (of_decide_eq_true rfl) ?_ rfl rfl;refine' ϰe ?_ rfl;refine' ϰr hG M8 ?_ rfl
  refine' ϰe ?_ rfl;refine' ϰa G8 ?_;refine' ϰe ?_ rfl;refine' ϰQ ?_;refine' ϰa G1 ?_;refine' ϰy ?_
  refine' ϰa G3 ?_;refine' isI ?_;refine' ϰy ?_;refine' ϰa G7 ?_;refine' isI ?_;refine' isY ?_;refine' tupK (δc hy rfl) ?_
  refine' ϰe ?_ rfl;refine' ϰq (by assumption) G0 P0 M2 GF2 rfl ?_;refine' ϰl ?_;refine' ϰw ?_
  refine' ϰaF F.K (by exact δa Fd rfl) ?_ ?_ hk ?_ ?_;exact δj hk2 rfl;exact δi hk3 rfl;refine Nat.le_trans (cut_len (Nat.le_refl _)) ?_;exact δc hy rfl;refine' ϰl ?_
  (focus (refine' put_w_ok F.K (by exact δa Fd rfl) ?_ ?_ P0 P0 ?_;rotate_left;rotate_left;dsimp only [cA,nA]));refine' ϰZ ?_;refine' ϰd ?_
  refine' asg (.nm G7) S3 rfl ?_;refine' asg .bo S4 rfl ?_;refine' ϰf ?_;rotate_left;exact ω2 [] [_,_,_] (.Le ν0 (.n 1000000)) (.Le ν0 (.a ν1 (.n 1))) (.Le (.a ν1 (.m 2 (.a ν2 (.n 1)))) (.n 20000)) hz1 hz rfl
  (focus (rw [ϰB];refine Nat.le_trans (Nat.add_le_add_right (cut_len (Nat.le_refl _)) 7) ?_));exact ω1 [] [_] (.Le (.a ν0 (.n 7)) (.n 1000000)) (.Le ν0 (.n 1000)) hy rfl
  by_cases H : upF y.length at1 room = (y.length : Int)
  ·have e := addF_end hres h1 H k (by rw [hk1];simp only [kdF,H,if_true])
   rw [decide_eq_true H]
   subst e
   refine ϱC (ι := WI) ⟨0,_,_,true,true,_⟩ ⟨(by intro q;cases q),(fun _ => ⟨rfl,rfl⟩),?_,?_⟩ (Nat.succ_pos _) ⟨LM 448 _,.refl _⟩
   ·dsimp only;exact ω1 [_] [_] (.le (.n 0) (.a ξ0 (.c ν0))) (.le (.n 0) ξ0) hl1 rfl
   ·simp only [List.length_append,List.length_cons,List.length_nil];exact ω2 [] [_,_,_] (.Le (.a (.a ν0 (.a (.n 0) (.n 1))) (.m 2 (.n 0))) (.n 20000)) (.Le ν0 (.a ν1 (.n 1))) (.Le (.a ν1 (.m 2 (.a ν2 (.n 1)))) (.n 20000)) hz1 hz rfl
  ·have hres' := addF_go hres h1 H k (by rw [hk1];simp only [kdF,H,if_false])
   rw [decide_eq_false H]
   refine ϱC (ι := WI) ⟨n1,upF y.length at1 room,_,true,false,_⟩ ⟨(fun _ => hres'),(by intro q;cases q),?_,?_⟩ (Nat.lt_succ_self _) ⟨LM 448 _,.refl _⟩
   ·dsimp only;exact ω1 [_] [_] (.le (.n 0) (.a ξ0 (.c ν0))) (.le (.n 0) ξ0) hl1 rfl
   ·simp only [List.length_append,List.length_cons,List.length_nil];exact ω2 [] [_,_,_] (.Le (.a (.a ν0 (.a (.n 0) (.n 1))) (.m 2 ν1)) (.n 20000)) (.Le ν0 (.a ν2 (.n 1))) (.Le (.a ν2 (.m 2 (.a ν1 (.n 1)))) (.n 20000)) hz1 hz rfl
end
noncomputable def EI (prog : Program) (w : World) (A : Around) (env : Env) (h : Heap) (e : Expr) (i : Int) : Prop :=
 ∀ (s : Shared) (E Q : Value → Shared → Prop),s.heap = h → (∀ t tk,Q (.int i t) { s with toks := tk }) → wpAny (model prog w) A (eval e env) Q E s
section
variable {prog : Program} {w : World} {A : Around} {env : Env} {h : Heap}
theorem EI.const {i : Int} {k pos} : EI prog w A env h (.Constant (.int i) k pos) i := fun s E Q hh hq => wpAny_Constant_int (hq _ _)
theorem EI.bin {l r : Expr} {op pos} {a b x : Int} (h1 : EI prog w A env h l a) (h2 : EI prog w A env h r b)
  (h3 : ∀ (s : Shared) (E Q : Value → Shared → Prop) (t u : Tok),(∀ t tk,Q (.int x t) { s with toks := tk }) → wpAny (model prog w) A (binaryOp op (.int a t) (.int b u)) Q E s) : EI prog w A env h (.BinOp l op r pos) x := fun s E Q hh hq =>
 wpAny_BinOp (h1 s _ _ hh fun t tk => h2 _ _ _ hh fun u tk' => h3 _ _ _ t u fun t tk => hq t tk)
theorem EI.add {l r : Expr} {pos} {a b : Int} (h1 : EI prog w A env h l a) (h2 : EI prog w A env h r b) : EI prog w A env h (.BinOp l .Add r pos) (a + b) := h1.bin h2 fun s E Q t u hq => add_int (hq _ _)
theorem EI.mul {l r : Expr} {pos} {a b : Int} (hm : IntMulOk a b) (h1 : EI prog w A env h l a) (h2 : EI prog w A env h r b) : EI prog w A env h (.BinOp l .Mult r pos) (a * b) := h1.bin h2 fun s E Q t u hq => mul_int (hq _ _) hm
theorem EI.mod {l r : Expr} {pos} {a b : Int} (h0 : 0 < b) (h1 : EI prog w A env h l a) (h2 : EI prog w A env h r b) : EI prog w A env h (.BinOp l .Mod r pos) (a % b) := h1.bin h2 fun s E Q t u hq =>
 mod_int' (by exact fun hq => β2 [_] [] (.lt (.n 0) ξ0) (.eq ξ0 (.n 0)) h0 hq rfl) (by rw [Int.fmod_eq_emod_of_nonneg _ (Int.le_of_lt h0)];exact hq _ _)
theorem EI.div {l r : Expr} {pos} {a b : Int} (h0 : 0 < b) (hb : b < 1073741824) (h1 : EI prog w A env h l a) (h2 : EI prog w A env h r b) : EI prog w A env h (.BinOp l .FloorDiv r pos) (a / b) := h1.bin h2 fun s E Q t u hq =>
 floordiv_int (by exact fun hq => β2 [_] [] (.lt (.n 0) ξ0) (.eq ξ0 (.n 0)) h0 hq rfl) (by rw [Int.fdiv_eq_ediv_of_nonneg _ (Int.le_of_lt h0)];exact hq _ _) (.inl (PyProof.noPylong_small (by exact ω2 [_] [_] (.Lt ν0 (.n 1073741824)) (.lt ξ0 (.n 1073741824)) (.eq (.c ν0) ξ0) hb (Int.natAbs_of_nonneg (ω1 [_] [] (.le (.n 0) ξ0) (.lt (.n 0) ξ0) h0 rfl)) rfl)))
end
theorem ϱk {env : Env} {x : Str} (hf : env.scope.kind = .function) (hc : env.kindOf x = some .cell) : ∀ {names : List (Str × NameKind)},names.lookup x = some .free →
  (names.map fun (n,k) => if (k == NameKind.free && env.scope.kind == .function && env.kindOf n == some .cell) then (n,NameKind.cell) else (n,k)).lookup x = some .cell
 | [],h => by simp at h
 |(n,k) :: r,h => by
  rw [List.map_cons]
  rw [List.lookup_cons] at h
  by_cases e : x = n
  ·subst e
   simp only [beq_self_eq_true] at h
   cases h
   dsimp only
   rw [hf,hc]
   simp
  ·have e' : (x == n) = false := beq_false_of_ne e
   rw [e'] at h
   dsimp only
   split
   ·rw [List.lookup_cons,e'];exact ϱk hf hc h
   ·rw [List.lookup_cons,e'];exact ϱk hf hc h
noncomputable def IterOK (c : Cx) (iter : Expr) (σ : St) (Ψ : AV → St → Prop) : Prop :=
 ∀ T fr s m,Holds c σ T fr s → Fr c.h0 c.L s.heap m → LocR c T σ.loc m →
  wpAny c.M c.A (eval iter c.env) (fun v s1 => ∃ av σ1 T1,Ext T T1 ∧ Holds c σ1 T1 fr s1 ∧ Fr c.h0 c.L s1.heap m ∧ LocR c T1 σ1.loc m ∧ VR T1 av v ∧ Ψ av σ1) (fun _ _ => False) s
theorem LocR.mono {c : Cx} {T T' : Led} {loc : List (Str × Option AV)} {m : Str → Option Value} (h : LocR c T loc m) (e : ∀ p ∈ T,p ∈ T') : LocR c T' loc m := fun x o hm =>
 ⟨(h x o hm).1,fun av q => let ⟨v,h1,h2⟩ := (h x o hm).2 av q;⟨v,h1,h2.mono e⟩⟩
section
variable {c : Cx} {σ : St}
theorem VRs.ints {T : Led} {ks : List Int} : ∀ {ys : List Value},IntsAre ys ks → VRs T (ks.map AV.int) ys := by
 induction ks with
 | nil => intro ys h;cases h;exact VRs.nil
 | cons k ks ih => intro ys h;cases h with | cons _ t h => exact .cons .of_int (ih h)
theorem off1_ne {D : Addr} : ∀ {l : Led},LCg.Off1 D l → ∀ p ∈ l,p.1 ≠ D
 | [],_,_,h => nomatch h
 | q :: l,h,p,hm => by
  rcases List.mem_cons.mp hm with rfl | hm
  ·exact h.1
  ·exact off1_ne h.2 p hm
theorem Holds.madeD {T fr : Led} {s : Shared} {m : Str → Option Value} {L : Led} (H : Holds c σ T fr s) (hl : LocR c T σ.loc m) (ho : Owns c.w.params T σ.hp L) (nd : ((L ++ (T ++ fr)).map (·.1)).Nodup)
  {h' : Heap} {x : Addr} {o : Obj} {ao : AO} (r : OR c.w.params T x ao [(x,o)]) (ne : ∀ p ∈ L ++ (T ++ fr),p.1 ≠ x) (F : Fr c.h0 c.L h' m) (N : News c.h0 c.L h' ((x,o) :: (L ++ (T ++ fr)))) (k : Nat) :
  Holds c ⟨σ.loc,(x,ao) :: σ.hp⟩ T fr { s with heap := h',toks := k } :=
 ⟨⟨m,F,hl⟩,H.nd,⟨(x,o) :: L,Owns.put (l := [(x,o)]) r ho,N,by
  show (List.map (·.1) ((x,o) :: (L ++ (T ++ fr)))).Nodup
  rw [List.map_cons,List.nodup_cons]
  refine ⟨fun hm => ?_,nd⟩
  obtain ⟨p,hp,e⟩ := List.mem_map.mp hm
  exact ne p hp e⟩,by rw [H.rest]⟩
noncomputable def SrcI (fv : List (Str × Addr × Int)) (B : Int → Prop) (g : Int → Int) (R : List Int → St → Prop) (av : AV) (σ1 : St) : Prop :=
 (∀ p ∈ fv,∃ rest,Pick (p.2.1,.cell (some (.int p.2.2))) σ1.hp rest) ∧
  ((∃ (r : Addr) (n : Nat) (rest : List (Addr × AO)),av = .ref r ∧ Pick (r,.rng 0 (n : Int) 1) σ1.hp rest ∧ n ≤ 1000000 ∧ (∀ k : Int,0 ≤ k → k < n → B k) ∧ R ((rangeKs 0 n).map g) σ1) ∨
   (∃ (l : Addr) (ns : List Int) (rest : List (Addr × AO)),av = .ref l ∧ Pick (l,.list (ns.map AV.int)) σ1.hp rest ∧ ns.length ≤ 1000000 ∧ (∀ k ∈ ns,B k) ∧ R (ns.map g) σ1))
structure ElOK (c : Cx) (scope : Scope) (cl : List (Str × Addr)) (x : Str) (fv : List (Str × Addr × Int)) (elt : Expr) (B : Int → Prop) (g : Int → Int) : Prop where
 kind : scope.kind = .function
 x1 : scope.names.lookup x = some .local
 xd : (x == ("__debug__" : Str)) = false
 free : ∀ p ∈ fv,cl.lookup p.1 = some p.2.1 ∧ scope.names.lookup p.1 = some .free ∧ c.env.kindOf p.1 = some .cell ∧ (p.1 == ("__debug__" : Str)) = false
 el : ∀ (A : Around) (env : Env) (h : Heap) (k : Int),B k → (∀ pos,EI c.prog c.w A env h (.Name x pos) k) → (∀ p ∈ fv,∀ pos,EI c.prog c.w A env h (.Name p.1 pos) p.2.2) → EI c.prog c.w A env h elt (g k)
theorem comp_src {elt : Expr} {x : Str} {scope : Scope} {cl : List (Str × Addr)} {fv : List (Str × Addr × Int)} {B : Int → Prop} {g : Int → Int} (K : ElOK c scope cl x fv elt B g)
  {T fr : Led} {s : Shared} {m : Str → Option Value} {v : Value} {av : AV} {R : List Int → St → Prop} {Fin : Shared → List Value → Led → Prop} (H : Holds c σ T fr s) (F : Fr c.h0 c.L s.heap m) (r : VR T av v) (hs : SrcI fv B g R av σ)
  (fin : ∀ L ys ks h,Owns c.w.params T σ.hp L → ((L ++ (T ++ fr)).map (·.1)).Nodup → IntsAre ys ks → R ks σ → Fin { s with heap := h } ys (L ++ (T ++ fr))) :
  LCg.CompSrc c.prog c.w c.A c.h0 c.L m c.env elt x scope cl Fin v s := by
 obtain ⟨hcells,hs⟩ := hs
 obtain ⟨L,ho,N,nd⟩ := H.own
 have turn : ∀ {g' : Heap} {S : Led → Prop} (hS : S (L ++ (T ++ fr))) k t I oI C oC D m₂ ys h tk (E' : Value → Shared → Prop),B k → LCg.NsObj oC m₂ → m₂ x = some (.int k t) → Fr c.h0 c.L h m → News c.h0 c.L h ((I,oI) :: (C,oC) :: (D,LCg.lst ys) :: (L ++ (T ++ fr))) → LCg.Off3 I C D (L ++ (T ++ fr)) →
   wpAny (model c.prog c.w) c.A (eval elt (compEnvC scope cl C c.env)) (LCg.CompEnd c.h0 c.L m { s with heap := h,toks := tk } I oI C oC D (LCg.lst ys) S (fun y news' => KCfEl (L ++ (T ++ fr)) (g k) y news')) E' { s with heap := h,toks := tk } := by
  intro g' S hS k t I oI C oC D m₂ ys h tk E' hB hC hx F' N' off
  refine K.el c.A (compEnvC scope cl C c.env) h k hB (fun pos s' E Q hh hq => ?_) (fun p hp pos s' E Q hh hq => ?_) _ _ _ rfl fun t' tk' => ?_
  ·have hns : s'.heap.Ns (compEnvC scope cl C c.env).locals m₂ := by rw [hh];exact hC.ns (N' (C,oC) (by simp)).1
   exact ldVarK hns hx (hq t s'.toks) K.kind (lookup_relabel_local K.x1) K.xd
  ·obtain ⟨h1,h2,h3,h4⟩ := K.free p hp
   obtain ⟨rest,pk⟩ := hcells p hp
   obtain ⟨lc,L',⟨o,w,rfl,hd,rr⟩,_,N2,_⟩ := H.pick pk
   cases w with
   | none => exact rr.elim
   | some w =>
    obtain ⟨tw,rfl⟩ := (show VR T (.int p.2.2) w from rr).int_inv
    have ho2 : s.heap.get? p.2.1 = some o := (N2 (p.2.1,o) (by simp)).1
    have hmem : (p.2.1,o) ∈ L ++ (T ++ fr) := by
     obtain ⟨l1,L1,⟨o',w',rfl,hd',_⟩,_,pm⟩ := ho.pick pk
     have hm : (p.2.1,o') ∈ L := pm.mem_iff.mpr (by simp)
     have := (N (p.2.1,o') (List.mem_append_left _ hm)).1
     rw [ho2] at this;cases this
     exact List.mem_append_left _ hm
    have hN : s'.heap.get? p.2.1 = some o := by rw [hh];exact (N' (p.2.1,o) (by simp only [List.mem_cons];exact .inr (.inr (.inr hmem)))).1
    exact wpAny_Name (wpAny_loadName_cell (env := compEnvC scope cl C c.env) K.kind (ϱk c.hk h3 h2) h1 ⟨o,hN,hd⟩ (hq tw s'.toks)) h4
  ·exact ⟨h,tk',L ++ (T ++ fr),rfl,F',N',off,hS,rfl,t',rfl⟩
 rcases hs with ⟨r',n,rest,rfl,pk,hn,hBB,hR⟩ | ⟨l,ns,rest,rfl,pk,hn,hBB,hR⟩
 ·cases r.ref_inv
  obtain ⟨lc,L',⟨t,u,q,rfl⟩,_,N2,_⟩ := H.pick pk
  have hr : IsRange s.heap r' 0 (n : Int) 1 t u q := (N2 (r',_) (by simp)).1
  refine LCg.CompSrc.range rfl F N hr (small_one (by decide) (by decide) (by exact κ0 [] [_] (.le (.n (-4611686018427387904)) (.c ν0)) [1] rfl) (by exact ω1 [] [_] (.lt (.c ν0) (.n 4611686018427387904)) (.Le ν0 (.n 1000000)) hn rfl)) (n := n) (by rw [rangeSize_nat];exact η2 [] [_,_] (.eq (.c ν0) (.c ν1)) (.eq (.c ν0) (.s (.c ν1) (.n 0))) (.le (.s (.c ν1) (.n 0)) (.c ν0)) [1,0,1] [1,1,0] (Int.toNat_of_nonneg (κ0 [] [_] (.le (.n 0) (.s (.c ν0) (.n 0))) [1] rfl)) (Int.self_le_toNat _) rfl) (by rw [sizeLine_eq];exact δc hn rfl) fun g' => ?_
  refine kcf_range g (fun k t I oI C oC D m₂ ys h tk E' hk0 hk1 hC hx F' N' off _ _ => turn (g' := g') trivial k t I oI C oC D m₂ ys h tk E' (hBB k hk0 (by exact ω1 [_] [_] (.lt ξ0 (.c ν0)) (.lt ξ0 (.a (.n 0) (.c ν0))) hk1 rfl)) hC hx F' N' off) ?_
  intro ys hy
  exact fin L ys _ g' ho nd hy hR
 ·cases r.ref_inv
  obtain ⟨vs,hl,rs⟩ := H.isList pk
  obtain ⟨lc,L',⟨vs',n',rfl,rs'⟩,_,N2,_⟩ := H.pick pk
  obtain ⟨l1,L1,⟨vs2,n2,rfl,rs2⟩,_,pm⟩ := ho.pick pk
  have hm : (l,listOf vs2.toArray n2) ∈ L ++ (T ++ fr) := List.mem_append_left _ (pm.mem_iff.mpr (by simp))
  have hints := ints_of rs2
  have hlen : vs2.length = ns.length := by rw [rs2.length,List.length_map]
  refine LCg.CompSrc.ledger rfl F N hm (by rw [sizeLine_eq,List.size_toArray];exact ω2 [] [_,_] (.Le ν0 (.n 16777216)) (.Eq ν0 ν1) (.Le ν1 (.n 1000000)) hlen hn rfl) fun g' => ?_
  refine kcf_list g hints (fun k t I oI C oC D m₂ ys h tk E' hk hC hx F' N' off _ _ => turn (g' := g') (.inr ⟨_,hm,rfl,_,rfl⟩) k t I oI C oC D m₂ ys h tk E' (hBB k hk) hC hx F' N' off) ?_
  intro ys hy
  exact fin L ys _ g' ho nd hy hR
theorem WE.comp {elt iter : Expr} {x : Str} {px pos} {scope : Scope} {cl : List (Str × Addr)} {fv : List (Str × Addr × Int)} {B : Int → Prop} {g : Int → Int} {Φ : AV → St → Prop} (K : ElOK c scope cl x fv elt B g)
  (hclos : closureFor scope c.env = pure cl) (hcell : ∀ y ∈ scope.names,y.2 ≠ .cell) (hnames : ∀ y ∈ scope.names,y.2 = .local → scope.names.lookup y.1 = some .local)
  (h : IterOK c iter σ (SrcI fv B g fun ks σ1 => ∀ D,Φ (.ref D) ⟨σ1.loc,(D,.list (ks.map AV.int)) :: σ1.hp⟩))
  (hs : ∀ v,foldedSetIterable iter c.env v = pure v) : WE c (.ListComp elt [⟨.Name x px,iter,[],0⟩] scope pos) σ Φ := fun T fr s Q H k => by
 obtain ⟨m,F,hl⟩ := H.fr_
 refine ϰj (E := fun _ _ => False) (LCg.ListComp_U F hclos hcell K.kind hnames K.x1 (wpAny_mono (h T fr s m H F hl) (fun v s1 h1 => ?_) fun _ _ e => e) hs)
 obtain ⟨av,σ1,T1,e1,H1,F1,hl1,r1,hsrc⟩ := h1
 refine comp_src K H1 F1 r1 hsrc fun L ys ks g' ho nd hy hR => ?_
 intro D h' tk F' N' o1
 exact k _ _ _ T1 _ e1 (H1.madeD hl1 ho nd (ao := .list (ks.map AV.int)) ⟨ys,ys.length,rfl,VRs.ints hy⟩ (off1_ne o1) F' N' _) .of_ref (hR D)
theorem WS.assignComp {y : Str} {py spos} {elt iter : Expr} {x : Str} {px pos} {scope : Scope} {cl : List (Str × Addr)} {fv : List (Str × Addr × Int)} {B : Int → Prop} {g : Int → Int} {Φ : AFl → St → Prop} (K : ElOK c scope cl x fv elt B g)
  (hsw : swapsWith (.ListComp elt [⟨.Name x px,iter,[],0⟩] scope pos) (some (.Name y py)) spos.line c.env = pure true)
  (hclos : closureFor scope c.env = pure cl) (hcell : ∀ y ∈ scope.names,y.2 ≠ .cell) (hnames : ∀ y ∈ scope.names,y.2 = .local → scope.names.lookup y.1 = some .local)
  (h : IterOK c iter σ (SrcI fv B g fun ks σ1 => ∀ D,∃ loc',SetL y (.ref D) σ1.loc loc' ∧ Φ .next ⟨loc',(D,.list (ks.map AV.int)) :: σ1.hp⟩))
  (hs : ∀ v,foldedSetIterable iter c.env v = pure v) (hy : c.env.kindOf y = some .local) : WS c (.Assign [.Name y py] (.ListComp elt [⟨.Name x px,iter,[],0⟩] scope pos) spos) σ Φ := fun T fr s Q H k => by
 obtain ⟨m,F,hl⟩ := H.fr_
 have hp : (c.env.scope.kind == .class || (c.env.scope.kind == .module && c.env.locals != c.env.globals)) = false := by
  have : c.env.scope.kind = .function := c.hk
  rw [this];rfl
 refine ϰj (E := fun _ _ => False) (LCg.Assign_ListComp_U F rfl hsw hclos hcell K.kind hnames K.x1 hy hp (wpAny_mono (h T fr s m H F hl) (fun v s1 h1 => ?_) fun _ _ e => e) hs)
 obtain ⟨av,σ1,T1,e1,H1,F1,hl1,r1,hsrc⟩ := h1
 refine comp_src K H1 F1 r1 hsrc fun L ys ks g' ho nd hyi hR => ?_
 intro D h' tk F' N' o1
 obtain ⟨loc',hset,hφ⟩ := hR D
 refine k .next _ _ T1 _ e1 ?_ rfl hφ
 refine ⟨⟨_,F',?_⟩,by rw [hset.names];exact H1.nd,⟨(D,LCg.lst ys) :: L,Owns.put (l := [(D,LCg.lst ys)]) (⟨ys,ys.length,rfl,VRs.ints hyi⟩ : OR c.w.params T1 D (.list (ks.map AV.int)) _) ho,N',?_⟩,by rw [H1.rest]⟩
 ·intro z o hm
  rcases hset.mem H1.nd z o hm with ⟨rfl,rfl⟩ | ⟨hne,hm'⟩
  ·obtain ⟨o',ho'⟩ := hset.has
   refine ⟨(hl1 _ o' ho').1,fun av e => ?_⟩
   cases e
   exact ⟨_,by simp,.of_ref⟩
  ·refine ⟨(hl1 z o hm').1,fun av e => ?_⟩
   obtain ⟨w,hw,rw'⟩ := (hl1 z o hm').2 av e
   exact ⟨w,by simp [hne,hw],rw'⟩
 ·show (List.map (·.1) ((D,LCg.lst ys) :: (L ++ (T1 ++ fr)))).Nodup
  rw [List.map_cons,List.nodup_cons]
  refine ⟨fun hm => ?_,nd⟩
  obtain ⟨p,hp,e⟩ := List.mem_map.mp hm
  exact off1_ne o1 p hp e
theorem glob_any {x : Str} {pos} {v : Value} {G : List (Str × AV)} {s : Shared} {m : Str → Option Value} {Q E : Value → Shared → Prop} (F : Fr c.h0 c.L s.heap m) (hG : c.glob = G) (g : (x,.raw v) ∈ G) (h : Q v s) : wpAny c.M c.A (eval (.Name x pos) c.env) Q E s := by
 subst hG
 obtain ⟨hx,hd,hv,_⟩ := c.hg x _ g
 rcases hv with ⟨w,e,r⟩ | ⟨e,w,hb,hn,r⟩
 ·cases r.raw_inv;exact nameX_K F c.X (topRead_of c.T) e h c.hk hx hd
 ·cases r.raw_inv;exact nameX_B F c.X (topRead_of c.T) e hb hn h c.hk hx hd
theorem loc_any {x : Str} {pos} {av : AV} {s : Shared} {T : Led} {m : Str → Option Value} {Q E : Value → Shared → Prop} (F : Fr c.h0 c.L s.heap m) (hl : LocR c T σ.loc m) (g : GetL x av σ.loc) (h : ∀ v,VR T av v → Q v s) : wpAny c.M c.A (eval (.Name x pos) c.env) Q E s := by
 obtain ⟨⟨hx,hd⟩,hv⟩ := hl x _ g.mem
 obtain ⟨v,hm,r⟩ := hv _ rfl
 exact nameX_L F hm (h v r) c.hk hx hd
theorem it_range {y : Str} {p1 p2 pos : Pos} {n : Int} {G : List (Str × AV)} {Ψ : AV → St → Prop} (hG : c.glob = G) (g : (("range" : Str),AV.raw (.type "range")) ∈ G) (gy : GetL y (.int n) σ.loc) (h : ∀ r,Ψ (.ref r) ⟨σ.loc,(r,.rng 0 n 1) :: σ.hp⟩)
  (hp : plainArgs c pos [.Name y p2]) (he : starEach [.Name y p2] c.env = (false,eval (.Name y p2) c.env) :: starEach [] c.env) : IterOK c (.Call (.Name "range" p1) [.Name y p2] [] pos) σ Ψ := fun T fr s m H F hl => by
 refine to_any (S_Call_Name (ϰj (E := fun _ _ => False) (glob_any F hG g ?_)))
 refine S_callWith (P := fun h => c.K.In h) hp (fun h X => keeps_any (.inr rfl) h X) (S_items_cons (ϰj (E := fun _ _ => False) (loc_any F hl gy fun v r => S_items_nil ⟨Frag.In.keeps c.X F.keep,?_⟩)) he)
 obtain ⟨t,rfl⟩ := r.int_inv
 refine ϰj (E := fun _ _ => False) (call_range_1 ?_)
 exact ⟨_,_,T,.refl T,(H.madeObj (ao := .rng 0 n 1) rfl (fun x => ⟨_,_,_,rfl⟩) _),F.push _,hl,.of_ref,h _⟩
theorem it_script {y : Str} {py pos p pc : Pos} {k : Int} {kk} {l : Addr} {vs : List Value} {ns : List Int} {Ψ : AV → St → Prop} (gy : GetL y (.ref l) σ.loc) (hls : c.h0.IsList l vs.toArray) (hi : IntsAre vs ns) (hk : 0 ≤ k) (hz : ns.length ≤ 1000)
  (h : ∀ D,Ψ (.ref D) ⟨σ.loc,(D,.list ((ns.take k.toNat).map AV.int)) :: σ.hp⟩) : IterOK c (.Subscript (.Name y py) (.Slice none (some (.Constant (.int k) kk pc)) none p) pos) σ Ψ := fun T fr s m H F hl => by
 refine to_any (ϰaC (ϰj (E := fun _ _ => False) (loc_any F hl gy fun v r => ?_)))
 cases r.ref_inv
 rw [ϰaw]
 refine ϰb (ϰn (ϰb (ϰo ?_)))
 show wpS false c.M c.A (eval (.Constant (.int k) kk pc) c.env) _ _
 refine ϰj (E := fun _ _ => False) (wpAny_Constant_int ?_)
 refine ϰb (ϰo (ϰn ?_))
 refine ϰj (wpAny_newObj_type (E := fun _ _ => False) ?_ (by size_fits))
 have H0 := H.toks (s.toks + 1)
 obtain ⟨L,ho,N,nd⟩ := H0.own
 have hlen : vs.length = ns.length := hi.length
 have hls' : s.heap.IsList l vs.toArray := by
  obtain ⟨o,ho1,r1⟩ := hls
  exact ⟨o,F.keep _ _ ho1,r1⟩
 refine ϰj (kms_slice_lit F N hls' (.none) (.int k _) rfl (fun D h' F' N' lt => ?_) rfl (fun r => rfl) (by rw [List.size_toArray,hlen,sizeLine_eq];exact δc hz rfl))
 refine ⟨.ref D,_,T,.refl T,H0.made (ao := .list ((ns.take k.toNat).map AV.int)) hl ho nd ⟨_,0,rfl,?_⟩ lt F' N' _,F',hl,.of_ref,h D⟩
 rw [List.toList_toArray,kms_cut (α := Value)]
 have e : Mine.cut vs none (some k) = vs.take k.toNat := ϰah vs hk
 rw [e]
 exact VRs.ints (IntsAre.take hi _)
theorem closure_one {env : Env} {x z d : Str} {ca : Addr} (h : env.cells.lookup z = some ca) : closureFor { kind := .function,names := [(d,.local),(x,.local),(z,.free)],isGenerator := false,isCoroutine := false,more := [] } env = pure [(z,ca)] := by
 unfold closureFor
 simp only [List.forIn_cons,List.forIn_nil,cellOf,h]
 rfl
theorem closure_nil {env : Env} {x d : Str} : closureFor { kind := .function,names := [(d,.local),(x,.local)],isGenerator := false,isCoroutine := false,more := [] } env = pure [] := rfl
end
namespace Fct
theorem bytes_ga : PlainAttrs "bytes" :=
 ⟨⟨"bytes.__getattribute__",by rw [typeLookup_type,builtinLookup_eq_fast];kernel_rfl,by decide +kernel⟩,by rw [typeLookup_type,builtinLookup_eq_fast];kernel_rfl⟩
theorem by_slot_join : Slot "bytes" "join" "bytes.join" :=
 .of (owner := "bytes") (n := "join") (by rw [typeLookup_type,builtinLookup_eq_fast];kernel_rfl) (by decide +kernel) (by decide +kernel) (by decide +kernel)
  (by first | exact .inl (by decide +kernel) | exact .inr (by decide +kernel)) (by rw [isSubtype_type];kernel_rfl)
theorem by_type_join : typeOf (.builtin "bytes.join") = pure (.type "method_descriptor") := by show builtinType _ = _;rw [builtinType_eq_fast];kernel_rfl
theorem by_entry_join : entryFor table "bytes.join" = some Builtin.«bytes.join» := by first | exact entryFor_of_tree (by kernel_rfl) | exact entryFor_of_fast (by kernel_rfl)
theorem by_owner : Manifest.owners.lookup (String.ofList ['s','e','t','y','b'].reverse) = some Manifest.sig_bytes := by kernel_rfl
theorem by_args_join (a b : Value) : argsOk "bytes.join" ⟨[a,b],[]⟩ := by unfold argsOk;rw [signature?_of (id := "bytes.join") (n := ['n','i','o','j']) (o := ['s','e','t','y','b']) (by kernel_rfl) by_owner];kernel_rfl
end Fct
section
variable {b : Bool} {prog : Program} {w : World} {A : Around} {s : Shared}
theorem any_range' {M : Model} {β : Type} {f : Nat → β → Sem (ForInStep β)} {Q : β → Shared → Prop} {E : Value → Shared → Prop} {I : Nat → β → Shared → Prop} {n : Nat}
  (hs : ∀ i y s,i < n → I i y s → wpAny M A (f i y) (fun st s' => ∃ y',st = .yield y' ∧ I (i + 1) y' s') E s) (hq : ∀ y s,I n y s → Q y s) :
  ∀ (m k : Nat) (y : β) (s : Shared),k + m = n → I k y s → wpAny M A (forIn (List.range' k m) y f) Q E s := by
 intro m
 induction m with
 | zero =>
  intro k y s e h
  rw [Nat.add_zero] at e;subst e
  rw [List.range'_zero,List.forIn_nil]
  exact wpAny_pure (hq _ _ h)
 | succ m ih =>
  intro k y s e h
  rw [List.range'_succ,List.forIn_cons]
  refine wpAny_bind (wpAny_mono (hs k y s (by exact ω1 [] [_,_,_] (.Lt ν0 ν1) (.Eq (.a ν0 (.a ν2 (.n 1))) ν1) e rfl) h) (fun st s' h' => ?_) fun _ _ q => q)
  obtain ⟨y',rfl,h'⟩ := h'
  exact ih (k + 1) y' s' (by exact η1 [] [_,_,_] (.Eq (.a (.a ν0 (.n 1)) ν1) ν2) (.Eq (.a ν0 (.a ν1 (.n 1))) ν2) [1,-1] [1,1] e rfl) h'
theorem any_range {M : Model} {β : Type} {f : Nat → β → Sem (ForInStep β)} {Q : β → Shared → Prop} {E : Value → Shared → Prop} {n : Nat} {y : β} (I : Nat → β → Shared → Prop) (h0 : I 0 y s)
  (hs : ∀ i y s,i < n → I i y s → wpAny M A (f i y) (fun st s' => ∃ y',st = .yield y' ∧ I (i + 1) y' s') E s) (hq : ∀ y s,I n y s → Q y s) :
  wpAny M A (forIn [0:n] y f) Q E s := by
 rw [Std.Legacy.Range.forIn_eq_forIn_range']
 simp only [Std.Legacy.Range.size,Nat.sub_zero,Nat.add_sub_cancel,Nat.div_one]
 exact any_range' hs hq n 0 y s (by exact η0 [] [_] (.Eq (.a (.n 0) ν0) ν0) [1] [1] rfl) h0
theorem joinLet {res : List Value} {Q : Unit → Shared → Prop} (h : Q () s) : ∀ l : List (Value × Option Value),(∀ p ∈ l,p.2 = none) → wpAny (model prog w) A (Builtin.Bytes.joinLetGo l res) Q (fun _ _ => False) s
 | [],_ => wpAny_pure h
 |(x,u) :: r,hn => by
  obtain rfl : u = none := hn _ (.head _)
  refine wpAny_bind (wpAny_letGo ?_)
  exact joinLet h r fun p hp => hn p (.tail _ hp)
noncomputable def byV (p : Array UInt8 × Tok) : Value := .bytes p.1 p.2
theorem joined_nil (ps : List (Array UInt8)) : Builtin.Bytes.joined #[] ps = (ps.map (·.toList)).flatten.toArray := by
 unfold Builtin.Bytes.joined
 have : ∀ (l : List (Array UInt8)) (k : Nat) (acc : Array UInt8),(l.zipIdx k).foldl (fun out (p : Array UInt8 × Nat) => (if p.2 > 0 then out ++ #[] else out) ++ p.1) acc = acc ++ (l.map (·.toList)).flatten.toArray := by
  intro l
  induction l with
  | nil => intro k acc;simp
  | cons x l ih =>
   intro k acc
   rw [List.zipIdx_cons,List.foldl_cons,ih]
   refine Array.ext' ?_
   simp
 have h := this ps 0 #[]
 simpa using h
theorem fold_size (l : List (Array UInt8)) : ∀ n : Nat,l.toArray.foldl (· + ·.size) n = n + (l.map (·.size)).sum := by
 intro n
 rw [← Array.foldl_toList]
 show l.foldl (fun a y => a + y.size) n = _
 induction l generalizing n with
 | nil => simp
 | cons x l ih => rw [List.foldl_cons,ih,List.map_cons,List.sum_cons];exact η0 [] [_,_,_] (.Eq (.a (.a ν0 ν1) ν2) (.a ν0 (.a ν1 ν2))) [1] [1] rfl
theorem one_or {M : Model} {E : Value → Shared → Prop} {xs : List (Array UInt8 × Tok)} {Q : PySem.Fin → Shared → Prop} {f : Value → Sem PySem.Fin} {r : Sem PySem.Fin} (h1 : ∀ p,xs = [p] → wpAny M A (f (byV p)) Q E s) (h2 : wpAny M A r Q E s) :
  wpAny M A (match (xs.map byV).toArray with | #[x] => f x | _ => r) Q E s := by
 cases xs with
 | nil => exact h2
 | cons p l => cases l with
  | nil => exact h1 p rfl
  | cons q l => exact h2
theorem join_ok {t : Tok} {l : Addr} {o : Obj} {n : Nat} {xs : List (Array UInt8 × Tok)} {Q : Fin → Shared → Prop} (ho : s.heap.get? l = some o) (hc : o.cls = .type "list") (hd : o.data = .seq (xs.map byV).toArray n)
  (hz : (xs.map (·.1.size)).sum ≤ 16777216)
  (h : ∀ t' k,Q (.done (.ret (.bytes (xs.map (·.1.toList)).flatten.toArray t'))) { s with toks := k }) : wpAny (model prog w) A (Builtin.«bytes.join» ⟨[.bytes #[] t,.ref l],[]⟩) Q (fun _ _ => False) s := by
 unfold Builtin.«bytes.join» Builtin.Bytes.joinM
 refine wpAny_bind (wpAny_of_eq (a := (Value.bytes #[] t,Value.ref l)) rfl ?_)
 dsimp only
 have hi : wpAny (model prog w) A (Builtin.Bytes.joinItems (.ref l)) (fun v s' => v = .ref l ∧ s' = s) (fun _ _ => False) s := by
  unfold Builtin.Bytes.joinItems
  refine wpAny_bind (wpAny_typeOf (T := "list") (s := s) ⟨o,ho,hc⟩ ?_)
  exact bm_if_true rfl (wpAny_pure ⟨rfl,rfl⟩)
 refine wpAny_bind ?_
 show wpAny _ _ (Builtin.Bytes.joinItems (.ref l)) _ _ _
 refine wpAny_mono hi (fun v s' e => ?_) fun _ _ e => e
 clear hi
 obtain ⟨rfl,rfl⟩ := e
 refine wpAny_bind (wpAny_seqItems ho hd ?_)
 dsimp only
 refine bm_if_true rfl ?_
 refine one_or (fun p hp => ?_) ?_
 ·subst hp
  refine wpAny_bind (wpAny_of_eq (a := Value.type "bytes") rfl ?_)
  refine bm_if_true rfl ?_
  refine wpAny_bind (wpAny_rule ?_)
  refine wpAny_pure ?_
  have := h p.2 s'.toks
  simp only [List.map_cons,List.map_nil,List.flatten_cons,List.flatten_nil,List.append_nil,Array.toArray_toList] at this
  exact this
 ·refine wpAny_bind (any_range (fun i y s1 => s1 = s' ∧ y.1 = ((xs.take i).map (·.1)).toArray ∧ y.2 = (xs.take i).map (fun p => (byV p,none))) ⟨rfl,by simp,by simp⟩ (fun i y s1 hin e => ?_) fun y s1 e => ?_)
  ·obtain ⟨rfl,e1,e2⟩ := e
   obtain ⟨parts,taken⟩ := y
   dsimp only at e1 e2
   subst e1;subst e2
   have hi' : i < xs.length := by simpa using hin
   refine wpAny_bind (wpAny_seqItems ho hd ?_)
   dsimp only
   refine bm_if_false ?_ ?_
   ·rw [List.any_map]
    exact List.any_eq_false.mpr fun _ _ => Bool.false_ne_true
   have hg : (xs.map byV).toArray.getD i .none = .bytes (xs[i]).1 (xs[i]).2 := by
    simp [Array.getD,hi',byV]
   rw [hg]
   refine wpAny_bind (wpAny_holding (bytes_take ?_))
   dsimp only
   refine wpAny_bind (wpAny_seqItems ho hd ?_)
   dsimp only
   refine bm_if_false (by simp) ?_
   refine wpAny_pure ⟨_,rfl,rfl,?_,?_⟩
   ·rw [List.take_succ_eq_append_getElem hi',List.map_append];refine Array.ext' ?_;simp
   ·rw [List.take_succ_eq_append_getElem hi',List.map_append];rfl
  ·obtain ⟨rfl,e1,e2⟩ := e
   obtain ⟨parts,taken⟩ := y
   dsimp only at e1 e2
   rw [List.take_of_length_le (by simp)] at e1 e2
   subst e1;subst e2
   dsimp only
   refine wpAny_bind (wpAny_of_eq (a := (#[] : Array UInt8)) rfl ?_)
   have hsz : (xs.map (·.1)).toArray.foldl (· + ·.size) ((#[] : Array UInt8).size * ((xs.map (·.1)).toArray.size - 1)) = (xs.map (·.1.size)).sum := by
    rw [fold_size];simp [Function.comp_def]
   refine bm_if_false ?_ ?_
   ·show Builtin.Bytes.tooLong _ = false
    unfold Builtin.Bytes.tooLong
    rw [hsz]
    simp only [decide_eq_false_iff_not,gt_iff_lt,Nat.not_lt]
    exact hz
   have hl : (Builtin.Bytes.joined #[] (xs.map (·.1)).toArray.toList) = (xs.map (·.1.toList)).flatten.toArray := by
    rw [joined_nil];simp [Function.comp_def]
   refine wpAny_bind (wpAny_mkBytes ?_ ?_)
   ·refine wpAny_bind (wpAny_holding (wpAny_point ?_))
    refine wpAny_bind (joinLet ?_ _ fun p hp => ?_)
    ·rw [hl]
     exact wpAny_pure (h _ _)
    ·obtain ⟨q,_,rfl⟩ := List.mem_map.mp hp;rfl
   ·rw [hl]
    simp only [List.size_toArray,List.length_flatten,List.map_map,Function.comp_def,Array.length_toList]
    exact hz
end
section
variable {c : Cx} {σ : St} {Φ : AV → St → Prop}
theorem by_vals {T : Led} : ∀ {ps : List (List Int)} {vs : List Value},VRs T (ps.map AV.bytes) vs → ∃ xs : List (Array UInt8 × Tok),vs = xs.map byV ∧ xs.map (fun p => KBw.bInts p.1) = ps
 | [],vs,h => by simp only [List.map_nil,VRn,VRc] at h;subst h;exact ⟨[],rfl,rfl⟩
 | p :: ps,vs,h => by
  simp only [List.map_cons,VRn,VRc] at h
  obtain ⟨v,r,rfl,hv,hr⟩ := h
  obtain ⟨x,t,rfl,hx⟩ := hv.bytes_inv
  obtain ⟨xs,rfl,hxs⟩ := by_vals hr
  exact ⟨(x,t) :: xs,rfl,by rw [List.map_cons,hx,hxs]⟩
theorem bInts_flat (xs : List (Array UInt8 × Tok)) : KBw.bInts (xs.map (·.1.toList)).flatten.toArray = (xs.map (fun p => KBw.bInts p.1)).flatten := by
 induction xs with
 | nil => rfl
 | cons p xs ih =>
  simp only [KBw.bInts,List.map_cons,List.flatten_cons,List.map_append] at ih ⊢
  rw [ih]
theorem WE.joinB {kk pc apos pos} {e : Expr} {Φ : AV → St → Prop} (h : WE c e σ fun v σ2 => ∃ (l : Addr) (ps : List (List Int)) (rest : List (Addr × AO)),v = .ref l ∧ Pick (l,.list (ps.map AV.bytes)) σ2.hp rest ∧ ps.flatten.length ≤ 16777216 ∧ Φ (.bytes ps.flatten) σ2)
  (pl : Sem Bool) (hp : plainArgs c pos [e]) (hse : starEach [e] c.env = (false,eval e c.env) :: starEach [] c.env)
  (he : eval (.Call (.Attribute (.Constant (.bytes []) kk pc) "join" apos) [e] [] pos) c.env = (do
   let ov ← eval (.Constant (.bytes []) kk pc) c.env
   standAt apos.atName
   let (f,first) ← holding [ov] (getMethod ov "join" pl)
   callWith pos f first (backTo pos (starEach [e] c.env)) [])) : WE c (.Call (.Attribute (.Constant (.bytes []) kk pc) "join" apos) [e] [] pos) σ Φ := fun T fr s Q H k => by
 refine ϰak (pl := pl) ((ϰM (ks := []) (Φ := fun a' σ1 => a' = .bytes [] ∧ σ1 = σ) rfl ⟨rfl,rfl⟩) T fr s _ H fun a va σ1 T1 s1 e1 H1 r1 h1 => ?_) he
 obtain ⟨rfl,rfl⟩ := h1
 obtain ⟨z0,t0,rfl,hz0⟩ := r1.bytes_inv
 have hz0' : z0 = #[] := by
  have := ϱM hz0
  exact Array.eq_empty_of_size_eq_zero this
 subst hz0'
 refine ϰj (E := fun _ _ => False) (getMethod_builtin (T := "bytes") rfl Fct.bytes_ga Fct.by_slot_join Fct.by_type_join (fun a' e => by cases e) ?_)
 refine ϱL (Φ := fun as σ2 => ∃ v,as = [v] ∧ ∃ (l : Addr) (ps : List (List Int)) (rest : List (Addr × AO)),v = .ref l ∧ Pick (l,.list (ps.map AV.bytes)) σ2.hp rest ∧ ps.flatten.length ≤ 16777216 ∧ Φ (.bytes ps.flatten) σ2) (.inr rfl) hp
  (ϰe (W.mono h fun v σ2 hv => ϰl ⟨v,rfl,hv⟩) hse) H1 fun as vs2 σ2 T2 s2 e2 H2 r2 h3 => ?_
 obtain ⟨v,rfl,l,ps,rest2,rfl,pk2,hz,hφ⟩ := h3
 obtain ⟨vv,rfl,rv⟩ := r2.one
 cases rv.ref_inv
 obtain ⟨L2,L2',⟨ws,n2,rfl,rw2⟩,ho2,N2,nd2⟩ := H2.pick pk2
 have h0 : s2.heap.get? l = some (listOf ws.toArray n2) := (N2 (l,listOf ws.toArray n2) (by simp)).1
 obtain ⟨xs,rfl,rfl⟩ := by_vals rw2
 have hlen : (xs.map (·.1.size)).sum ≤ 16777216 := by
  have e : (xs.map (fun p => KBw.bInts p.1)).flatten.length = (xs.map (·.1.size)).sum := by
   rw [List.length_flatten,List.map_map]
   congr 1
   refine List.map_congr_left fun p _ => ?_
   exact (ϱM rfl).symm
  rw [← e];exact hz
 refine ϰj (E := fun _ _ => False) (wpAny_call_entry (T := "bytes") Fct.by_slot_join rfl Fct.by_entry_join ?_ (Fct.by_args_join _ _))
 refine join_ok (n := n2) h0 rfl rfl hlen fun t' k' => ?_
 exact ⟨_,rfl,k _ _ _ T2 _ (e1.trans e2) (H2.toks _) (.of_bytes (bInts_flat xs)) hφ⟩
end
noncomputable abbrev vals5 (z size : Int) : Y := (rangeKs 0 size.toNat).map fun j => (z + 5 * j) % 256
noncomputable abbrev mnF (a b : Int) : Int := if b < a then b else a
noncomputable abbrev yF (ns : Y) (i : Nat) : Int := drawF ns (2 + (0 + (i : Int) * 1))
noncomputable abbrev roomF (block : Int) (out : Y) : Int := block - (out.length : Int) % block
noncomputable def oldStep (ns : Y) (block check : Int) (i : Nat) (out : Y) : Y :=
 if yF ns i % 8 < 5 then
  if roomF block out < 7 then
   if yF ns i % 8 = 4 then (out ++ List.replicate (roomF block out).toNat 0) ++ fragY (yF ns i / 8 / 7 % 2 * 5) (vals5 (yF ns i / 8) (mnF (yF ns i / 8 % 7) (block - 7))) check
   else (out ++ List.replicate (roomF block out).toNat 0) ++ fragY (1 + yF ns i % 8) (vals5 (yF ns i / 8) (mnF (yF ns i / 8 % 7) (block - 7))) check
  else
   if yF ns i % 8 = 4 then out ++ fragY (yF ns i / 8 / 7 % 2 * 5) (vals5 (yF ns i / 8) (mnF (yF ns i / 8 % 7) (roomF block out - 7))) check
   else out ++ fragY (1 + yF ns i % 8) (vals5 (yF ns i / 8) (mnF (yF ns i / 8 % 7) (roomF block out - 7))) check
 else
  if yF ns i % 8 = 5 then
   out ++ ((((fragY (1 + yF ns i / 8 / 7 % 4) (vals5 (yF ns i / 8) (yF ns i / 8 % 7)) check).getD (0 : Int).toNat 0 + 1) % 256) :: cut (fragY (1 + yF ns i / 8 / 7 % 4) (vals5 (yF ns i / 8) (yF ns i / 8 % 7)) check) (some 1) none)
  else if yF ns i % 8 = 6 then
   out ++ (cut (fragY (1 + yF ns i / 8 / 7 % 4) (vals5 (yF ns i / 8) (yF ns i / 8 % 7)) check) none (some 4) ++ [yF ns i / 8 % 7 + 1 + yF ns i / 8 / 28 % 40] ++ cut (fragY (1 + yF ns i / 8 / 7 % 4) (vals5 (yF ns i / 8) (yF ns i / 8 % 7)) check) (some 5) none)
  else out ++ List.replicate (yF ns i / 8 % 11).toNat (yF ns i / 8 / 7 % 256 * (yF ns i / 8 % 2))
noncomputable def oldF (ns : Y) (block check : Int) : Nat → Y
 | 0 => []
 | i + 1 => oldStep ns block check i (oldF ns block check i)
section
variable {ns : Y} {block check : Int} {i : Nat} {out : Y}
theorem old1 (h1 : yF ns i % 8 < 5) (h2 : roomF block out < 7) (h3 : yF ns i % 8 = 4) : oldStep ns block check i out = (out ++ List.replicate (roomF block out).toNat 0) ++ fragY (yF ns i / 8 / 7 % 2 * 5) (vals5 (yF ns i / 8) (mnF (yF ns i / 8 % 7) (block - 7))) check := by
 unfold oldStep;rw [if_pos h1,if_pos h2,if_pos h3]
theorem old2 (h1 : yF ns i % 8 < 5) (h2 : roomF block out < 7) (h3 : ¬ yF ns i % 8 = 4) : oldStep ns block check i out = (out ++ List.replicate (roomF block out).toNat 0) ++ fragY (1 + yF ns i % 8) (vals5 (yF ns i / 8) (mnF (yF ns i / 8 % 7) (block - 7))) check := by
 unfold oldStep;rw [if_pos h1,if_pos h2,if_neg h3]
theorem old3 (h1 : yF ns i % 8 < 5) (h2 : ¬ roomF block out < 7) (h3 : yF ns i % 8 = 4) : oldStep ns block check i out = out ++ fragY (yF ns i / 8 / 7 % 2 * 5) (vals5 (yF ns i / 8) (mnF (yF ns i / 8 % 7) (roomF block out - 7))) check := by
 unfold oldStep;rw [if_pos h1,if_neg h2,if_pos h3]
theorem old4 (h1 : yF ns i % 8 < 5) (h2 : ¬ roomF block out < 7) (h3 : ¬ yF ns i % 8 = 4) : oldStep ns block check i out = out ++ fragY (1 + yF ns i % 8) (vals5 (yF ns i / 8) (mnF (yF ns i / 8 % 7) (roomF block out - 7))) check := by
 unfold oldStep;rw [if_pos h1,if_neg h2,if_neg h3]
theorem old5 (h1 : ¬ yF ns i % 8 < 5) (h2 : yF ns i % 8 = 5) : oldStep ns block check i out = out ++ ((((fragY (1 + yF ns i / 8 / 7 % 4) (vals5 (yF ns i / 8) (yF ns i / 8 % 7)) check).getD (0 : Int).toNat 0 + 1) % 256) :: cut (fragY (1 + yF ns i / 8 / 7 % 4) (vals5 (yF ns i / 8) (yF ns i / 8 % 7)) check) (some 1) none) := by
 unfold oldStep;rw [if_neg h1,if_pos h2]
theorem old6 (h1 : ¬ yF ns i % 8 < 5) (h2 : ¬ yF ns i % 8 = 5) (h3 : yF ns i % 8 = 6) : oldStep ns block check i out = out ++ (cut (fragY (1 + yF ns i / 8 / 7 % 4) (vals5 (yF ns i / 8) (yF ns i / 8 % 7)) check) none (some 4) ++ [yF ns i / 8 % 7 + 1 + yF ns i / 8 / 28 % 40] ++ cut (fragY (1 + yF ns i / 8 / 7 % 4) (vals5 (yF ns i / 8) (yF ns i / 8 % 7)) check) (some 5) none) := by
 unfold oldStep;rw [if_neg h1,if_neg h2,if_pos h3]
theorem old7 (h1 : ¬ yF ns i % 8 < 5) (h2 : ¬ yF ns i % 8 = 5) (h3 : ¬ yF ns i % 8 = 6) : oldStep ns block check i out = out ++ List.replicate (yF ns i / 8 % 11).toNat (yF ns i / 8 / 7 % 256 * (yF ns i / 8 % 2)) := by
 unfold oldStep;rw [if_neg h1,if_neg h2,if_neg h3]
theorem vals5_len (z s : Int) : (vals5 z s).length = s.toNat := by simp only [vals5,List.length_map,rangeKs_length]
theorem if31 {b q : Int} (hb : b ≤ 31) (hq : q < 7) : (if b - 7 < q then b - 7 else q).toNat ≤ 31 := by split <;> omega
theorem oldStep_len (hb : block ≤ 31) (hb0 : 8 ≤ block) : (oldStep ns block check i out).length ≤ out.length + 100 := by
 have hm0 := Int.emod_nonneg (out.length : Int) (show block ≠ 0 by exact fun hq => δF hb0 hq rfl)
 have q1 : yF ns i / 8 % 7 < 7 := Int.emod_lt_of_pos _ (by decide)
 have q0 : 0 ≤ yF ns i / 8 % 7 := Int.emod_nonneg _ (by decide)
 have c1 : ∀ (y : Y) a b,(cut y a b).length ≤ y.length := fun y a b => ϱz (Nat.le_refl _)
 have hq1 := if31 hb q1
 unfold oldStep
 split
 ·split <;> split <;> simp only [List.length_append,List.length_replicate,ϰB,vals5_len,mnF,roomF] <;> omega
 ·split
  ·have := c1 (fragY (1 + yF ns i / 8 / 7 % 4) (vals5 (yF ns i / 8) (yF ns i / 8 % 7)) check) (some 1) none
   rw [ϰB,vals5_len] at this
   simp only [List.length_append,List.length_cons,List.length_nil];exact ω3 [_] [_,_,_] (.Le (.a ν0 (.a ν1 (.n 1))) (.a ν0 (.n 100))) (.Le ν1 (.a ν2 (.n 7))) (.lt ξ0 (.n 7)) (.eq (.c ν2) ξ0) this q1 (Int.toNat_of_nonneg (δj q0 rfl)) rfl
  ·split
   ·have h1 := c1 (fragY (1 + yF ns i / 8 / 7 % 4) (vals5 (yF ns i / 8) (yF ns i / 8 % 7)) check) none (some 4)
    have h2 := c1 (fragY (1 + yF ns i / 8 / 7 % 4) (vals5 (yF ns i / 8) (yF ns i / 8 % 7)) check) (some 5) none
    rw [ϰB,vals5_len] at h1 h2
    simp only [List.length_append,List.length_cons,List.length_nil];exact κ4 [_] [_,_,_,_] (.Le (.a ν0 (.a (.a ν1 (.a (.n 0) (.n 1))) ν2)) (.a ν0 (.n 100))) (.Le ν2 (.a ν3 (.n 7))) (.Le ν1 (.a ν3 (.n 7))) (.lt ξ0 (.n 7)) (.eq (.c ν3) ξ0) [1,1,1,2,2] h2 h1 q1 (Int.toNat_of_nonneg (δj q0 rfl)) rfl
   ·simp only [List.length_append,List.length_replicate];exact ω2 [_] [_,_] (.Le (.a ν0 ν1) (.a ν0 (.n 100))) (.lt ξ0 (.n 11)) (.eq (.c ν1) ξ0) (Int.emod_lt_of_pos _ (by decide)) (Int.toNat_of_nonneg (δn rfl)) rfl
theorem oldF_len (hb : block ≤ 31) (hb0 : 8 ≤ block) : ∀ i,(oldF ns block check i).length ≤ 100 * i
 | 0 => by simp [oldF]
 | i + 1 => by have := oldF_len hb hb0 i;have h2 := oldStep_len (ns := ns) (check := check) (i := i) (out := oldF ns block check i) hb hb0;simp only [oldF];exact ω2 [] [_,_,_] (.Le ν0 (.m 100 (.a ν1 (.n 1)))) (.Le ν0 (.a ν2 (.n 100))) (.Le ν2 (.m 100 ν1)) h2 this rfl
theorem ϱd {i : Int} (hn : ∀ x ∈ ns,0 ≤ x) (h0 : 0 ≤ i) : 0 ≤ drawF ns i := by
 unfold drawF
 have h1 : 0 ≤ ns.getD (i % ns.length).toNat 0 := by
  rw [List.getD_eq_getElem?_getD]
  by_cases q : (i % (ns.length : Int)).toNat < ns.length
  ·rw [List.getElem?_eq_getElem q];exact hn _ (List.getElem_mem q)
  ·rw [List.getElem?_eq_none (by exact Nat.not_lt.mp q)];decide
 have h2 : 0 ≤ i / (ns.length : Int) := Int.ediv_nonneg h0 (by exact δz _)
 exact κ2 [_,_] [] (.le (.n 0) (.a ξ0 (.m 31 ξ1))) (.le (.n 0) ξ1) (.le (.n 0) ξ0) [1,31,1] h2 h1 rfl
end
section
variable {c : Cx} {σ : St}
theorem cellK {ca : Addr} {o : Option AV} {rest hp : List (Addr × AO)} {P : Option AV → List (Addr × AO) → Prop} (pk : Pick (ca,.cell o) hp rest) (h : P o rest) : ∃ o rest,Pick (ca,.cell o) hp rest ∧ P o rest := ⟨o,rest,pk,h⟩
theorem WE.ifI {t pos ka pa kb pb} {i j : Int} {Φ : AV → St → Prop} (h : WT c t σ fun v σ1 => Φ (.int (if v = true then i else j)) σ1) : WE c (.IfExp t (.Constant (.int i) ka pa) (.Constant (.int j) kb pb) pos) σ Φ :=
 WE.ifexp (W.mono h fun v σ1 hv => ⟨fun e => ϰi (by subst e;exact hv),fun e => ϰi (by subst e;exact hv)⟩)
theorem bytesR {l : Addr} {n : Nat} {a : Int} {rest : List (Addr × AO)} {Φ : AV → St → Prop} (pk : Pick (l,.list (List.replicate n (.int a))) σ.hp rest) (h0 : 0 ≤ a) (h1 : a < 256) (hz : n ≤ 16777216) (h : Φ (.bytes (List.replicate n a)) ⟨σ.loc,rest⟩) : WVs c (.raw (.type "bytes")) [.ref l] σ Φ :=
 bytesD (ns := List.replicate n a) pk (by simp) (fun x hx => by have := List.eq_of_mem_replicate hx;exact ⟨κ2 [_,_] [] (.le (.n 0) ξ0) (.eq ξ0 ξ1) (.le (.n 0) ξ1) [1,-1,1] this h0 rfl,ω2 [_,_] [] (.lt ξ0 (.n 256)) (.eq ξ0 ξ1) (.lt ξ1 (.n 256)) this h1 rfl⟩) (by simpa using hz) h
theorem Enters.ofC {foot rest : List (Addr × AO)} {f : Addr} {oc : Value} {od : Option Addr} {osl : Array (Option Value)} {name qual : Str} {params : Arguments} {body : List Stmt} {scope : Scope} {dV kV doc pm cdv ct : Value} {an : Option Addr}
  {as : List AV} {args : List Str} {more : List Str} {z : Str} {G : List (Str × AV)} {dp un : Nat} {Φ : AV → St → Prop}
  (ho : c.K.lookup f = some ⟨oc,od,.func (fnOf name qual params body scope dV kV doc pm an cdv ct),osl⟩) (hcd : codeIn c.K cdv qual = true) (hroom : dp < recursionLimit)
  (hlen : as.length = args.length)
  (hb : ∀ vs : List Value,vs.length = args.length → bindArgs (fnOf name qual params body scope dV kV doc pm an cdv ct) ⟨vs,[]⟩ = pure (args.zip vs))
  (hnd : (args ++ more).Nodup) (hloc : ((args ++ more).all fun x => scope.names.lookup x == some .local && !(x == ("__debug__" : Str))) = true)
  (hcl : ∀ n,cellsFrom n scope.names [] = [(z,n)]) (hco : scope.isCoroutine = false) (hgen : scope.isGenerator = false) (hk : scope.kind = .function)
  (hG : GAll c.K G) (hGs : (G.all fun p => scope.names.lookup p.1 == some .globalImplicit) = true) (hz : z ∉ args)
  (hp : σ.hp.Perm (foot ++ rest))
  (hbody : ∀ (c' : Cx) (ca : Addr),Inner c c' dp un scope (· = [(z,ca)]) G → WSs c' body ⟨(args.zip as).map (fun p => (p.1,some p.2)) ++ more.map (fun x => (x,none)),(ca,.cell none) :: foot⟩ (retK fun av hp' => Φ av ⟨σ.loc,hp' ++ rest⟩)) : Enters c dp un f as σ Φ := fun T fr s vs R H r k => by
 have hzz : (args.zip as).map (·.1) = args := List.map_fst_zip (by exact κ1 [] [_,_] (.Le ν0 ν1) (.Eq ν1 ν0) [1,-1] hlen rfl)
 refine enterC (args := args.zip as) (more := more) (z := z) hp ho hcd hroom (fun T fr s vs H r => ⟨args.zip vs,.of_eq (hb vs (by rw [r.length];exact hlen)),BR.zip r⟩) (by rw [hzz];exact hnd) (fun x hx => ?_) hcl hco hgen hk hG (fun p hp => ?_) (by rw [hzz];exact hz) hbody H r
  (fun av v hp' T' s' e H' rv hφ => k av v _ T' s' e H' rv hφ)
 ·rw [hzz] at hx
  have := List.all_eq_true.mp hloc x hx
  simp only [Bool.and_eq_true,beq_iff_eq,Bool.not_eq_true'] at this
  exact this
 ·have := List.all_eq_true.mp hGs p hp
  simpa using this
theorem Inner.kindZ {c c' : Cx} {dp un : Nat} {scope : Scope} {cl : List (Str × Addr) → Prop} {G : List (Str × AV)} (I : Inner c c' dp un scope cl G) {z : Str} {k : NameKind} (h : scope.names.lookup z = some k) : c'.env.kindOf z = some k := by
 show c'.cs.names.lookup z = _
 rw [I.cs];exact h
theorem m2 {a b : Int} : 0 ≤ a % 256 * (b % 2) ∧ a % 256 * (b % 2) < 256 := by
 have : b % 2 = 0 ∨ b % 2 = 1 := by omega
 rcases this with e | e <;> rw [e] <;> omega
theorem el_five {zk : Int} {ca : Addr} {p1 p2 p3 p4 p5 p6 p7 k1 k2} (hz : c.env.kindOf "z" = some .cell) :
  ElOK c { kind := .function,names := [(".0",.local),("j",.local),("z",.free)],isGenerator := false,isCoroutine := false,more := [] } [(("z" : Str),ca)] "j" [(("z" : Str),ca,zk)]
   (.BinOp (.BinOp (.Name "z" p1) .Add (.BinOp (.Constant (.int 5) k1 p2) .Mult (.Name "j" p3) p4) p5) .Mod (.Constant (.int 256) k2 p6) p7) (fun k => 0 ≤ k ∧ k < 1000000) (fun k => (zk + 5 * k) % 256) :=
 ⟨rfl,rfl,by decide,fun p hp => by
  have := List.mem_singleton.mp hp;subst this
  exact ⟨by simp,rfl,hz,rfl⟩,fun A env h k hB hx hf => .mod (by decide) (.add (hf _ (List.mem_singleton.mpr rfl) _) (.mul (mul64 (by decide) (by exact δq hB.2 hB.1 rfl)) .const (hx _))) .const⟩
theorem el_three {zk : Int} {ca : Addr} {p0 p1 p2 p3 p4 p5 p6 p7 p8 k0 k1 k2} (hz : c.env.kindOf "z" = some .cell) :
  ElOK c { kind := .function,names := [(".0",.local),("j",.local),("z",.free)],isGenerator := false,isCoroutine := false,more := [] } [(("z" : Str),ca)] "j" [(("z" : Str),ca,zk)]
   (.BinOp (.BinOp (.BinOp (.Name "z" p1) .FloorDiv (.Constant (.int 7) k0 p0) p8) .Add (.BinOp (.Constant (.int 3) k1 p2) .Mult (.Name "j" p3) p4) p5) .Mod (.Constant (.int 256) k2 p6) p7) (fun k => 0 ≤ k ∧ k < 1000000) (fun k => (zk / 7 + 3 * k) % 256) :=
 ⟨rfl,rfl,by decide,fun p hp => by
  have := List.mem_singleton.mp hp;subst this
  exact ⟨by simp,rfl,hz,rfl⟩,fun A env h k hB hx hf => .mod (by decide) (.add (.div (by decide) (by decide) (hf _ (List.mem_singleton.mpr rfl) _) .const) (.mul (mul64 (by decide) (by exact δq hB.2 hB.1 rfl)) .const (hx _))) .const⟩
theorem el_nums {p1 p2 p3 k1} :
  ElOK c { kind := .function,names := [(".0",.local),("x",.local)],isGenerator := false,isCoroutine := false,more := [] } [] "x" []
   (.BinOp (.Name "x" p1) .Mod (.Constant (.int 999983) k1 p2) p3) (fun _ => True) (fun k => k % 999983) :=
 ⟨rfl,rfl,by decide,(fun p hp => nomatch hp),fun A env h k hB hx hf => .mod (by decide) (hx _) .const⟩
theorem ϰaL {G : List (Str × AV)} {ca : Addr} {zk n : Int} {rest : List (Addr × AO)} {y : Str} {p1 p2 p3 p4 p5 p6 p7 px q1 q2 q3 pos : Pos} {k1 k2 : Nat} {Φ : AV → St → Prop} (hcl : c.cl = [(("z" : Str),ca)]) (hz : c.env.kindOf "z" = some .cell) (hG : c.glob = G) (g : (("range" : Str),AV.raw (.type "range")) ∈ G)
  (gy : GetL y (.int n) σ.loc) (pkz : Pick (ca,.cell (some (.int zk))) σ.hp rest) (h0 : 0 ≤ n) (h1 : n < 1000000) (hp : plainArgs c q3 [.Name y q2]) (he : starEach [.Name y q2] c.env = (false,eval (.Name y q2) c.env) :: starEach [] c.env)
  (hs : ∀ v,foldedSetIterable (.Call (.Name "range" q1) [.Name y q2] [] q3) c.env v = pure v)
  (h : ∀ r D,Φ (.ref D) ⟨σ.loc,(D,.list (((rangeKs 0 n.toNat).map fun k => (zk + 5 * k) % 256).map AV.int)) :: (r,.rng 0 n 1) :: σ.hp⟩) :
  WE c (.ListComp (.BinOp (.BinOp (.Name "z" p1) .Add (.BinOp (.Constant (.int 5) k1 p2) .Mult (.Name "j" p3) p4) p5) .Mod (.Constant (.int 256) k2 p6) p7) [⟨.Name "j" px,.Call (.Name "range" q1) [.Name y q2] [] q3,[],0⟩]
   { kind := .function,names := [(".0",.local),("j",.local),("z",.free)],isGenerator := false,isCoroutine := false,more := [] } pos) σ Φ :=
 WE.comp (el_five hz) (closure_one (by show List.lookup _ c.cl = _;rw [hcl];rfl)) (by decide) (by decide)
  (it_range hG g gy (fun r => ⟨fun p hp => by have := List.mem_singleton.mp hp;subst this;exact ⟨_,.tail _ pkz⟩,
   .inl ⟨r,n.toNat,_,rfl,by rw [Int.toNat_of_nonneg h0];exact Pick.head _,by exact ω2 [_] [_] (.Le ν0 (.n 1000000)) (.lt ξ0 (.n 1000000)) (.eq (.c ν0) ξ0) h1 (Int.toNat_of_nonneg (δj h0 rfl)) rfl,fun k a b => ⟨a,by exact ω3 [_,_] [_] (.lt ξ0 (.n 1000000)) (.lt ξ0 (.c ν0)) (.lt ξ1 (.n 1000000)) (.eq (.c ν0) ξ1) b h1 (Int.toNat_of_nonneg (δj h0 rfl)) rfl⟩,fun D => h r D⟩⟩) hp he) hs
theorem WE.compZ3 {G : List (Str × AV)} {ca : Addr} {zk n : Int} {rest : List (Addr × AO)} {y : Str} {p0 p1 p2 p3 p4 p5 p6 p7 p8 px q1 q2 q3 pos : Pos} {k0 k1 k2 : Nat} {Φ : AV → St → Prop} (hcl : c.cl = [(("z" : Str),ca)]) (hz : c.env.kindOf "z" = some .cell) (hG : c.glob = G) (g : (("range" : Str),AV.raw (.type "range")) ∈ G)
  (gy : GetL y (.int n) σ.loc) (pkz : Pick (ca,.cell (some (.int zk))) σ.hp rest) (h0 : 0 ≤ n) (h1 : n < 1000000) (hp : plainArgs c q3 [.Name y q2]) (he : starEach [.Name y q2] c.env = (false,eval (.Name y q2) c.env) :: starEach [] c.env)
  (hs : ∀ v,foldedSetIterable (.Call (.Name "range" q1) [.Name y q2] [] q3) c.env v = pure v)
  (h : ∀ r D,Φ (.ref D) ⟨σ.loc,(D,.list (((rangeKs 0 n.toNat).map fun k => (zk / 7 + 3 * k) % 256).map AV.int)) :: (r,.rng 0 n 1) :: σ.hp⟩) :
  WE c (.ListComp (.BinOp (.BinOp (.BinOp (.Name "z" p1) .FloorDiv (.Constant (.int 7) k0 p0) p8) .Add (.BinOp (.Constant (.int 3) k1 p2) .Mult (.Name "j" p3) p4) p5) .Mod (.Constant (.int 256) k2 p6) p7) [⟨.Name "j" px,.Call (.Name "range" q1) [.Name y q2] [] q3,[],0⟩]
   { kind := .function,names := [(".0",.local),("j",.local),("z",.free)],isGenerator := false,isCoroutine := false,more := [] } pos) σ Φ :=
 WE.comp (el_three hz) (closure_one (by show List.lookup _ c.cl = _;rw [hcl];rfl)) (by decide) (by decide)
  (it_range hG g gy (fun r => ⟨fun p hp => by have := List.mem_singleton.mp hp;subst this;exact ⟨_,.tail _ pkz⟩,
   .inl ⟨r,n.toNat,_,rfl,by rw [Int.toNat_of_nonneg h0];exact Pick.head _,by exact ω2 [_] [_] (.Le ν0 (.n 1000000)) (.lt ξ0 (.n 1000000)) (.eq (.c ν0) ξ0) h1 (Int.toNat_of_nonneg (δj h0 rfl)) rfl,fun k a b => ⟨a,by exact ω3 [_,_] [_] (.lt ξ0 (.n 1000000)) (.lt ξ0 (.c ν0)) (.lt ξ1 (.n 1000000)) (.eq (.c ν0) ξ1) b h1 (Int.toNat_of_nonneg (δj h0 rfl)) rfl⟩,fun D => h r D⟩⟩) hp he) hs
end
set_option maxHeartbeats 4000000
section
variable {c : Cx} {σ : St} {dp un : Nat} {Φ : AV → St → Prop}
theorem modM {f : Int → Int} {l : Y} : ∀ n ∈ l.map (fun k => f k % 256),0 ≤ n ∧ n < 256 := by intro n hn;obtain ⟨k,_,rfl⟩ := List.mem_map.mp hn;exact ⟨δn rfl,δm rfl⟩
theorem old_zero {ns : Y} {b k : Int} : oldF ns b k 0 = [] := rfl
theorem old_ok {ns : Y} {block check : Int} {l : Addr} {rest : List (Addr × AO)} (hK : c.K = mk0.heap_1 c.w.params) (hr : dp + 6 < 900) (hn : 0 < ns.length) (hz : ns.length < 100) (hnn : ∀ x ∈ ns,0 ≤ x) (hb0 : 8 ≤ block) (hb1 : block ≤ 31) (hk : check = 1 ∨ check = 2) (pk : Pick (l,.list (ns.map AV.int)) σ.hp rest) (h : Φ (.bytes (oldF ns block check (drawF ns 1 % (if check = 1 then 3 else 5)).toNat)) ⟨σ.loc,(l,.list (ns.map AV.int)) :: rest⟩) : Enters c dp un 256 [.ref l,.int block,.int check] σ Φ := by
 refine Enters.post ?_
 refine Enters.ofC (z := "z") (args := ["nums","block","check"]) (more := ["out","i","y","way","room","size","kind","piece"]) (G := [("range",.raw (.type "range")),("_law_draw",.raw (.ref 251)),("len",.raw (.builtin "len")),("bytes",.raw (.type "bytes")),("min",.raw (.builtin "min")),("make_fragment",.raw (.ref 146))]) (foot := [(l,.list (ns.map AV.int))]) (rest := rest) (by rw [hK];k_is) (by rw [hK];k_is) (room hr) rfl (fun vs e => by obtain ⟨v0,v1,v2,rfl⟩ := len3 e;rfl) (by decide) (by rfl) (fun n => rfl) rfl rfl rfl (by rw [hK];exact (ϰg (gf_range _) (ϰg (gf__law_draw _) (ϰg (ϰaD _) (ϰg (ϰag _) (ϰg (gf_min _) (ϰg (ϱO _) ϰD))))))) (by rfl) (by decide) pk.perm ?_
 intro c' ca I
 have F : Fix mk0.heap_1 c' 5 := I.fix hK (by exact δb hr rfl)
 have hG := I.glob
 have hcb : c'.cb = c.cb := I.cb
 have Fd := F.dp
 have hcl : c'.cl = [(("z" : Str),ca)] := I.cl
 have hkz : c'.env.kindOf "z" = some .cell := I.kindZ rfl
 show WSs c' _ ⟨[("nums",some (.ref l)),("block",some (.int block)),("check",some (.int check)),("out",none),("i",none),("y",none),("way",none),("room",none),("size",none),("kind",none),("piece",none)],_⟩ _
 have hd0 : 0 ≤ drawF ns 1 := ϱd hnn (by decide)
 refine' asn ?_ rfl;refine' ϰM (ks := []) rfl ?_;refine' setN S3 ?_;dsimp only [cA,nA];refine' ϰh ?_;refine' ϱP ?_ (by intro _;rfl)
 refine' ϰr hG M0 ?_ rfl;refine' ϰe ?_ rfl;refine' ϰc ?_;refine' ϰs hG M1 (.c (.nm G0) (.c .i .n rfl) rfl) rfl ?_
 refine' ϰw ?_;(focus (refine' draw_ok F.K (by exact δa Fd rfl) ?_ ?_ hn hz P1 ?_;rotate_left;rotate_left;dsimp only [cA,nA]));refine' WE.ifI ?_
 refine' ϰU (.eq (.nm G2) .i) ?_;refine' ϰC ?_ ?_;omega;refine' ϰl ?_;refine' WVs.range1 (fun _ => ?_);dsimp only [cA,nA];rotate_left
 decide;decide
 simp only [decide_eq_true_eq]
 have hv0 : 0 ≤ drawF ns 1 % (if check = 1 then 3 else 5) ∧ drawF ns 1 % (if check = 1 then 3 else 5) < 5 := by split <;> (first | exact ⟨ω1 [_] [] (.le (.n 0) ξ0) (.le (.n 0) ξ0) (Int.emod_nonneg _ (by decide)) rfl,ω1 [_] [] (.lt ξ0 (.n 5)) (.lt ξ0 (.n 3)) (Int.emod_lt_of_pos _ (by decide)) rfl⟩ | exact ⟨ω1 [_] [] (.le (.n 0) ξ0) (.le (.n 0) ξ0) (Int.emod_nonneg _ (by decide)) rfl,ω1 [_] [] (.lt ξ0 (.n 5)) (.lt ξ0 (.n 5)) (Int.emod_lt_of_pos _ (by decide)) rfl⟩)
 generalize drawF ns 1 % (if check = 1 then 3 else 5) = v at *
 refine ForOK.range (ι := Option AV) v.toNat (P := fun _ _ => True) (J := fun i o => ⟨[("nums",some (.ref l)),("block",some (.int block)),("check",some (.int check)),("out",some (.bytes (oldF ns block check i))),("i",none),("y",none),("way",none),("room",none),("size",none),("kind",none),("piece",none)],[(l,.list (ns.map AV.int)),(ca,.cell o)]⟩) none P0 (by rw [rangeSize_nat];exact η4 [_,_] [_,_] (.eq (.c ν0) (.c ν1)) (.eq (.c ν0) (.s ξ0 (.n 0))) (.le ξ0 (.c ν1)) (.le (.s ξ1 (.n 0)) (.c ν0)) (.eq (.c ν1) ξ1) [1,0,0,1,1] [1,1,1,0,0] (Int.toNat_of_nonneg (ω1 [_] [] (.le (.n 0) (.s ξ0 (.n 0))) (.le (.n 0) ξ0) hv0.1 rfl)) (Int.self_le_toNat _) (Int.self_le_toNat _) (Int.toNat_of_nonneg (δj hv0.1 rfl)) rfl) (small_one (by decide) (by decide) (by exact δj hv0.1 rfl) (by exact δi hv0.2 rfl)) trivial ⟨LocLe.refl _,.cons P1 (.cons P1 (.nil _))⟩ ?_ ?_
 ·intro i o hi _
  have y0 : 0 ≤ yF ns i := ϱd hnn (by exact κ0 [] [_] (.le (.n 0) (.a (.n 2) (.a (.n 0) (.r (.c ν0) 1)))) [1] rfl)
  have hlen := oldF_len (ns := ns) (check := check) hb1 hb0 i
  have hm0 := Int.emod_nonneg ((oldF ns block check i).length : Int) (show block ≠ 0 by exact fun hq => δF hb0 hq rfl)
  have hm1 := Int.emod_lt_of_pos ((oldF ns block check i).length : Int) (show 0 < block by exact δl hb0 rfl)
  have hF : (fragY (1 + drawF ns (2 + (0 + (i : Int) * 1)) / 8 / 7 % 4) (List.map (fun k => (drawF ns (2 + (0 + (i : Int) * 1)) / 8 + 5 * k) % 256) (rangeKs 0 (drawF ns (2 + (0 + (i : Int) * 1)) / 8 % 7).toNat)) check).length ≤ 20 := by
   rw [ϰB,List.length_map,rangeKs_length];exact ω2 [_] [_] (.Le (.a ν0 (.n 7)) (.n 20)) (.lt ξ0 (.n 7)) (.eq (.c ν0) ξ0) (Int.emod_lt_of_pos _ (by decide)) (Int.toNat_of_nonneg (δn rfl)) rfl
  have hF1 : (cut (fragY (1 + drawF ns (2 + (0 + (i : Int) * 1)) / 8 / 7 % 4) (List.map (fun k => (drawF ns (2 + (0 + (i : Int) * 1)) / 8 + 5 * k) % 256) (rangeKs 0 (drawF ns (2 + (0 + (i : Int) * 1)) / 8 % 7).toNat)) check) (some 1) none).length ≤ 20 := ϱz hF
  have hF2 : (cut (fragY (1 + drawF ns (2 + (0 + (i : Int) * 1)) / 8 / 7 % 4) (List.map (fun k => (drawF ns (2 + (0 + (i : Int) * 1)) / 8 + 5 * k) % 256) (rangeKs 0 (drawF ns (2 + (0 + (i : Int) * 1)) / 8 % 7).toNat)) check) none (some 4)).length ≤ 20 := ϱz hF
  have hF3 : (cut (fragY (1 + drawF ns (2 + (0 + (i : Int) * 1)) / 8 / 7 % 4) (List.map (fun k => (drawF ns (2 + (0 + (i : Int) * 1)) / 8 + 5 * k) % 256) (rangeKs 0 (drawF ns (2 + (0 + (i : Int) * 1)) / 8 % 7).toNat)) check) (some 5) none).length ≤ 20 := ϱz hF
  have hq1 : (if block - 7 < drawF ns (2 + (0 + (i : Int) * 1)) / 8 % 7 then block - 7 else drawF ns (2 + (0 + (i : Int) * 1)) / 8 % 7).toNat ≤ 31 := if31 hb1 (Int.emod_lt_of_pos _ (by decide))
  have hq2 : (if block - ((oldF ns block check i).length : Int) % block - 7 < drawF ns (2 + (0 + (i : Int) * 1)) / 8 % 7 then block - ((oldF ns block check i).length : Int) % block - 7 else drawF ns (2 + (0 + (i : Int) * 1)) / 8 % 7).toNat ≤ 31 := if31 (by exact ω2 [_,_] [] (.le (.s ξ0 ξ1) (.n 31)) (.le (.n 0) ξ1) (.le ξ0 (.n 31)) hm0 hb1 rfl) (Int.emod_lt_of_pos _ (by decide))
  have hs1 : oldF ns block check (i + 1) = oldStep ns block check i (oldF ns block check i) := rfl
  refine' ϱh S4 ?_;dsimp only [cA,nA];refine' asn ?_ rfl;refine' ϰs hG M1 (.c (.nm G0) (.c (.add .i (.nm G4)) .n rfl) rfl) rfl ?_
  refine' ϰw ?_;(focus (refine' draw_ok F.K (by exact δa Fd rfl) ?_ ?_ hn hz P0 ?_;rotate_left;rotate_left;dsimp only [cA,nA]));refine' setN S5 ?_
  refine' asn ?_ rfl;refine' ϰc ?_;refine' ϰa G5 ?_;refine' ϰi ?_;refine' ϰC ?_ ?_;decide;refine' setN S6 ?_;dsimp only [cA,nA]
  refine' ϰh ?_;refine' WS.assignC hcl hkz ?_ rfl;refine' ϰc ?_;refine' ϰa G5 ?_;refine' ϰi ?_;refine' ϱx ?_ ?_ ?_;decide
  decide;refine' cellK P1 ?_;dsimp only [cA,nA];refine' ϰd ?_;refine' asn ?_ rfl;refine' ϰc ?_;refine' ϰa G1 ?_;refine' ϰc ?_
  refine' ϰs hG M2 (.c (.nm G3) .n rfl) rfl ?_;refine' ϰv ?_ ?_;exact κ4 [_] [_,_,_] (.Le ν0 (.n 16777216)) (.Le ν0 (.m 100 ν1)) (.Lt ν1 ν2) (.lt ξ0 (.n 5)) (.eq (.c ν2) ξ0) [1,1,100,100,100] hlen hi hv0.2 (Int.toNat_of_nonneg (δj hv0.1 rfl)) rfl;refine' ϰa G1 ?_;refine' ϰC ?_ ?_;exact Int.lt_of_le_of_lt hm0 hm1
  refine' ϰO ?_;refine' setN S7 ?_;dsimp only [cA,nA];refine' asn ?_ rfl;refine' ϰc ?_;refine' ϱD hcl hkz P0 ?_;refine' ϰi ?_
  refine' ϰC ?_ ?_;decide;refine' setN S8 ?_;dsimp only [cA,nA];refine' itc (.lt (.nm G6) .i) ?_;refine' qD (fun hc => ?_) (fun hc => ?_)
  refine' itc (.lt (.nm G7) .i) ?_;refine' qD (fun hc => ?_) (fun hc => ?_);refine' asn ?_ rfl;refine' ϰc ?_;refine' ϰa G3 ?_
  refine' ϰs hG M3 (.c (.nm G7) .n rfl) rfl ?_;refine' WVs.bytesN ?_ ?_ ?_;exact δE hm1 rfl;exact ω1 [_,_] [] (.le (.s ξ0 ξ1) (.n 16777216)) (.lt (.s ξ0 ξ1) (.n 7)) hc rfl;refine' ϰN ?_ ?_
  (focus (simp only [List.length_append,List.length_replicate,ϰB,List.length_map,rangeKs_length];exact κ6 [_,_,_] [_,_,_,_] (.Le (.a ν0 ν1) (.n 16777216)) (.lt (.s ξ0 ξ1) (.n 7)) (.Le ν0 (.m 100 ν2)) (.Lt ν2 ν3) (.lt ξ2 (.n 5)) (.eq (.c ν3) ξ2) (.eq (.c ν1) (.s ξ0 ξ1)) [1,1,1,100,100,100,1] hc hlen hi hv0.2 (Int.toNat_of_nonneg (δj hv0.1 rfl)) (Int.toNat_of_nonneg (δE hm1 rfl)) rfl));refine' setN S3 ?_;dsimp only [cA,nA]
  refine' asg (.nm G1) S7 rfl ?_;refine' ϰf ?_;refine' ϰd ?_;refine' asn ?_ rfl
  refine' ϰs hG M4 (.c (.nm G8) (.c (.sub (.nm G7) .i) .n rfl) rfl) rfl ?_;refine' ϰbf ?_;refine' setN S8 ?_;dsimp only [cA,nA];refine' ϰf ?_
  refine' ϰd ?_;refine' asg (.add .i (.nm G6)) S9 rfl ?_;refine' itc (.eq (.nm G6) .i) ?_;refine' qD (fun hc => ?_) (fun hc => ?_)
  refine' asn ?_ rfl;refine' ϰc ?_;refine' ϰc ?_;refine' ϰc ?_;refine' ϱD hcl hkz P0 ?_;refine' ϰi ?_
  refine' ϱx ?_ ?_ ?_;decide;decide;refine' ϰi ?_;refine' ϰC ?_ ?_;decide;refine' ϰi ?_;refine' ϰS ?_ ?_ ?_;exact δqq rfl;exact Nat.le_of_ble_eq_true rfl
  refine' setN S9 ?_;dsimp only [cA,nA];refine' ϰf ?_;refine' ϰd ?_;refine' asn ?_ rfl;refine' ϰr hG M5 ?_ rfl;refine' ϰe ?_ rfl
  refine' ϰa G9 ?_;refine' ϰe ?_ rfl;refine' ϰr hG M3 ?_ rfl;refine' ϰe ?_ rfl
  (focus (refine' ϰaL hcl hkz hG M0 G8 P0 ?_ ?_ rfl rfl (by intro _;rfl) (fun r D => ?_);rotate_left;rotate_left;dsimp only [cA,nA]))
  refine' ϰl ?_;refine' bytesM P0 ?_ ?_ ?_;exact modM;(focus (simp only [List.length_map,rangeKs_length];exact δc hq1 rfl))
  refine' ϰz (.c (.nm G2) .n rfl) ?_;refine' ϰw ?_;refine' ϰaF F.K (by exact δa Fd rfl) ?_ ?_ hk ?_ ?_;exact κ1 [_] [] (.le (.n 0) (.r ξ0 5)) (.le (.n 0) ξ0) [1,5] (Int.emod_nonneg _ (by decide)) rfl;exact κ1 [_] [] (.lt (.r ξ0 5) (.n 256)) (.lt ξ0 (.n 2)) [1,5] (Int.emod_lt_of_pos _ (by decide)) rfl
  (focus (simp only [List.length_map,rangeKs_length];exact δc hq1 rfl));refine' setN S10 ?_;dsimp only [cA,nA];refine' itc (.eq (.nm G6) .i) ?_
  refine' qD (fun hc => (by exfalso;exact δH (m := 4) hc (by assumption) rfl)) (fun hc => ?_);refine' itc (.eq (.nm G6) .i) ?_;refine' qD (fun hc => (by exfalso;exact δH (m := 4) hc (by assumption) rfl)) (fun hc => ?_)
  refine' itc (.eq (.nm G6) .i) ?_;refine' qD (fun hc => (by exfalso;exact δH (m := 4) hc (by assumption) rfl)) (fun hc => ?_);refine' ϰf ?_;refine' nn ?_;refine' nn ?_
  refine' ϰd ?_;refine' asn ?_ rfl;refine' ϰc ?_;refine' ϰa G3 ?_;refine' ϰa G10 ?_;refine' ϰN ?_ ?_
  (focus (simp only [List.length_append,List.length_replicate,ϰB,List.length_map,rangeKs_length];exact κ7 [_,_,_] [_,_,_,_,_] (.Le (.a (.a ν0 ν1) (.a ν2 (.n 7))) (.n 16777216)) (.Le ν2 (.n 31)) (.Le ν0 (.m 100 ν3)) (.Lt ν3 ν4) (.lt ξ0 (.n 5)) (.lt (.s ξ1 ξ2) (.n 7)) (.eq (.c ν4) ξ0) (.eq (.c ν1) (.s ξ1 ξ2)) [1,1,1,100,100,1,100,1] hq1 hlen hi hv0.2 (by assumption) (Int.toNat_of_nonneg (δj hv0.1 rfl)) (Int.toNat_of_nonneg (δE hm1 rfl)) rfl));refine' setN S3 ?_;dsimp only [cA,nA]
  refine' ϰf ?_;rotate_left;(focus (split <;> (first | exact ω1 [_] [] (.le (.n 0) (.s ξ0 (.n 7))) (.le (.n 8) ξ0) hb0 rfl | exact ω1 [_] [] (.le (.n 0) ξ0) (.le (.n 0) ξ0) (Int.emod_nonneg _ (by decide)) rfl)));(focus (split <;> (first | exact ω1 [_] [] (.lt (.s ξ0 (.n 7)) (.n 1000000)) (.le ξ0 (.n 31)) hb1 rfl | exact ω1 [_] [] (.lt ξ0 (.n 1000000)) (.lt ξ0 (.n 7)) (Int.emod_lt_of_pos _ (by decide)) rfl)));refine' itc (.gt (.nm G6) .i) ?_
  refine' qD (fun hc => (by exfalso;exact β2 [_] [] (.lt (.n 4) ξ0) (.lt ξ0 (.n 5)) hc (by assumption) rfl)) (fun hc => ?_);refine' ϰf ?_;refine' nn ?_;refine' ϰd ?_;refine' asn ?_ rfl
  refine' ϰr hG M5 ?_ rfl;refine' ϰe ?_ rfl;refine' ϰa G9 ?_;refine' ϰe ?_ rfl;refine' ϰr hG M3 ?_ rfl
  refine' ϰe ?_ rfl
  (focus (refine' ϰaL hcl hkz hG M0 G8 P0 ?_ ?_ rfl rfl (by intro _;rfl) (fun r D => ?_);rotate_left;rotate_left;dsimp only [cA,nA]))
  refine' ϰl ?_;refine' bytesM P0 ?_ ?_ ?_;exact modM;(focus (simp only [List.length_map,rangeKs_length];exact δc hq1 rfl))
  refine' ϰz (.c (.nm G2) .n rfl) ?_;refine' ϰw ?_;refine' ϰaF F.K (by exact δa Fd rfl) ?_ ?_ hk ?_ ?_;exact δB rfl;exact ω1 [_] [] (.lt (.a (.n 1) ξ0) (.n 256)) (.nlt (.n 4) ξ0) hc rfl
  (focus (simp only [List.length_map,rangeKs_length];exact δc hq1 rfl));refine' setN S10 ?_;dsimp only [cA,nA];refine' itc (.eq (.nm G6) .i) ?_
  refine' qD (fun hc => (by exfalso;exact δI hc (by assumption) rfl)) (fun hc => ?_);refine' itc (.eq (.nm G6) .i) ?_;refine' qD (fun hc => (by exfalso;exact δI hc (by assumption) rfl)) (fun hc => ?_)
  refine' itc (.eq (.nm G6) .i) ?_;refine' qD (fun hc => (by exfalso;exact δI hc (by assumption) rfl)) (fun hc => ?_);refine' ϰf ?_;refine' nn ?_;refine' nn ?_
  refine' ϰd ?_;refine' asn ?_ rfl;refine' ϰc ?_;refine' ϰa G3 ?_;refine' ϰa G10 ?_;refine' ϰN ?_ ?_
  (focus (simp only [List.length_append,List.length_replicate,ϰB,List.length_map,rangeKs_length];exact κ7 [_,_,_] [_,_,_,_,_] (.Le (.a (.a ν0 ν1) (.a ν2 (.n 7))) (.n 16777216)) (.Le ν2 (.n 31)) (.Le ν0 (.m 100 ν3)) (.Lt ν3 ν4) (.lt ξ0 (.n 5)) (.lt (.s ξ1 ξ2) (.n 7)) (.eq (.c ν4) ξ0) (.eq (.c ν1) (.s ξ1 ξ2)) [1,1,1,100,100,1,100,1] hq1 hlen hi hv0.2 (by assumption) (Int.toNat_of_nonneg (δj hv0.1 rfl)) (Int.toNat_of_nonneg (δE hm1 rfl)) rfl));refine' setN S3 ?_;dsimp only [cA,nA]
  refine' ϰf ?_;rotate_left;(focus (split <;> (first | exact ω1 [_] [] (.le (.n 0) (.s ξ0 (.n 7))) (.le (.n 8) ξ0) hb0 rfl | exact ω1 [_] [] (.le (.n 0) ξ0) (.le (.n 0) ξ0) (Int.emod_nonneg _ (by decide)) rfl)));(focus (split <;> (first | exact ω1 [_] [] (.lt (.s ξ0 (.n 7)) (.n 1000000)) (.le ξ0 (.n 31)) hb1 rfl | exact ω1 [_] [] (.lt ξ0 (.n 1000000)) (.lt ξ0 (.n 7)) (Int.emod_lt_of_pos _ (by decide)) rfl)));refine' ϰf ?_;refine' ϰd ?_;refine' asn ?_ rfl
  refine' ϰs hG M4 (.c (.nm G8) (.c (.sub (.nm G7) .i) .n rfl) rfl) rfl ?_;refine' ϰbf ?_;refine' setN S8 ?_;dsimp only [cA,nA];refine' ϰf ?_
  refine' ϰd ?_;refine' asg (.add .i (.nm G6)) S9 rfl ?_;refine' itc (.eq (.nm G6) .i) ?_;refine' qD (fun hc => ?_) (fun hc => ?_)
  refine' asn ?_ rfl;refine' ϰc ?_;refine' ϰc ?_;refine' ϰc ?_;refine' ϱD hcl hkz P0 ?_;refine' ϰi ?_
  refine' ϱx ?_ ?_ ?_;decide;decide;refine' ϰi ?_;refine' ϰC ?_ ?_;decide;refine' ϰi ?_;refine' ϰS ?_ ?_ ?_;exact δqq rfl;exact Nat.le_of_ble_eq_true rfl
  refine' setN S9 ?_;dsimp only [cA,nA];refine' ϰf ?_;refine' ϰd ?_;refine' asn ?_ rfl;refine' ϰr hG M5 ?_ rfl;refine' ϰe ?_ rfl
  refine' ϰa G9 ?_;refine' ϰe ?_ rfl;refine' ϰr hG M3 ?_ rfl;refine' ϰe ?_ rfl
  (focus (refine' ϰaL hcl hkz hG M0 G8 P0 ?_ ?_ rfl rfl (by intro _;rfl) (fun r D => ?_);rotate_left;rotate_left;dsimp only [cA,nA]))
  refine' ϰl ?_;refine' bytesM P0 ?_ ?_ ?_;exact modM;(focus (simp only [List.length_map,rangeKs_length];exact δc hq2 rfl))
  refine' ϰz (.c (.nm G2) .n rfl) ?_;refine' ϰw ?_;refine' ϰaF F.K (by exact δa Fd rfl) ?_ ?_ hk ?_ ?_;exact κ1 [_] [] (.le (.n 0) (.r ξ0 5)) (.le (.n 0) ξ0) [1,5] (Int.emod_nonneg _ (by decide)) rfl;exact κ1 [_] [] (.lt (.r ξ0 5) (.n 256)) (.lt ξ0 (.n 2)) [1,5] (Int.emod_lt_of_pos _ (by decide)) rfl
  (focus (simp only [List.length_map,rangeKs_length];exact δc hq2 rfl));refine' setN S10 ?_;dsimp only [cA,nA];refine' itc (.eq (.nm G6) .i) ?_
  refine' qD (fun hc => (by exfalso;exact δH (m := 4) hc (by assumption) rfl)) (fun hc => ?_);refine' itc (.eq (.nm G6) .i) ?_;refine' qD (fun hc => (by exfalso;exact δH (m := 4) hc (by assumption) rfl)) (fun hc => ?_)
  refine' itc (.eq (.nm G6) .i) ?_;refine' qD (fun hc => (by exfalso;exact δH (m := 4) hc (by assumption) rfl)) (fun hc => ?_);refine' ϰf ?_;refine' nn ?_;refine' nn ?_
  refine' ϰd ?_;refine' asn ?_ rfl;refine' ϰc ?_;refine' ϰa G3 ?_;refine' ϰa G10 ?_;refine' ϰN ?_ ?_
  (focus (simp only [ϰB,List.length_map,rangeKs_length];exact κ5 [_] [_,_,_,_] (.Le (.a ν0 (.a ν1 (.n 7))) (.n 16777216)) (.Le ν1 (.n 31)) (.Le ν0 (.m 100 ν2)) (.Lt ν2 ν3) (.lt ξ0 (.n 5)) (.eq (.c ν3) ξ0) [1,1,1,100,100,100] hq2 hlen hi hv0.2 (Int.toNat_of_nonneg (δj hv0.1 rfl)) rfl));refine' setN S3 ?_;dsimp only [cA,nA];refine' ϰf ?_;rotate_left
  (focus (split <;> (first | exact ω1 [_,_] [] (.le (.n 0) (.s (.s ξ0 ξ1) (.n 7))) (.nlt (.s ξ0 ξ1) (.n 7)) (by assumption) rfl | exact ω1 [_] [] (.le (.n 0) ξ0) (.le (.n 0) ξ0) (Int.emod_nonneg _ (by decide)) rfl)));(focus (split <;> (first | exact ω2 [_,_] [] (.lt (.s (.s ξ0 ξ1) (.n 7)) (.n 1000000)) (.le (.n 0) ξ1) (.le ξ0 (.n 31)) hm0 hb1 rfl | exact ω1 [_] [] (.lt ξ0 (.n 1000000)) (.lt ξ0 (.n 7)) (Int.emod_lt_of_pos _ (by decide)) rfl)));refine' itc (.gt (.nm G6) .i) ?_;refine' qD (fun hc => (by exfalso;exact β2 [_] [] (.lt (.n 4) ξ0) (.lt ξ0 (.n 5)) hc (by assumption) rfl)) (fun hc => ?_)
  refine' ϰf ?_;refine' nn ?_;refine' ϰd ?_;refine' asn ?_ rfl;refine' ϰr hG M5 ?_ rfl;refine' ϰe ?_ rfl
  refine' ϰa G9 ?_;refine' ϰe ?_ rfl;refine' ϰr hG M3 ?_ rfl;refine' ϰe ?_ rfl
  (focus (refine' ϰaL hcl hkz hG M0 G8 P0 ?_ ?_ rfl rfl (by intro _;rfl) (fun r D => ?_);rotate_left;rotate_left;dsimp only [cA,nA]))
  refine' ϰl ?_;refine' bytesM P0 ?_ ?_ ?_;exact modM;(focus (simp only [List.length_map,rangeKs_length];exact δc hq2 rfl))
  refine' ϰz (.c (.nm G2) .n rfl) ?_;refine' ϰw ?_;refine' ϰaF F.K (by exact δa Fd rfl) ?_ ?_ hk ?_ ?_;exact δB rfl;exact ω1 [_] [] (.lt (.a (.n 1) ξ0) (.n 256)) (.nlt (.n 4) ξ0) hc rfl
  (focus (simp only [List.length_map,rangeKs_length];exact δc hq2 rfl));refine' setN S10 ?_;dsimp only [cA,nA];refine' itc (.eq (.nm G6) .i) ?_
  refine' qD (fun hc => (by exfalso;exact δI hc (by assumption) rfl)) (fun hc => ?_);refine' itc (.eq (.nm G6) .i) ?_;refine' qD (fun hc => (by exfalso;exact δI hc (by assumption) rfl)) (fun hc => ?_)
  refine' itc (.eq (.nm G6) .i) ?_;refine' qD (fun hc => (by exfalso;exact δI hc (by assumption) rfl)) (fun hc => ?_);refine' ϰf ?_;refine' nn ?_;refine' nn ?_
  refine' ϰd ?_;refine' asn ?_ rfl;refine' ϰc ?_;refine' ϰa G3 ?_;refine' ϰa G10 ?_;refine' ϰN ?_ ?_
  (focus (simp only [ϰB,List.length_map,rangeKs_length];exact κ5 [_] [_,_,_,_] (.Le (.a ν0 (.a ν1 (.n 7))) (.n 16777216)) (.Le ν1 (.n 31)) (.Le ν0 (.m 100 ν2)) (.Lt ν2 ν3) (.lt ξ0 (.n 5)) (.eq (.c ν3) ξ0) [1,1,1,100,100,100] hq2 hlen hi hv0.2 (Int.toNat_of_nonneg (δj hv0.1 rfl)) rfl));refine' setN S3 ?_;dsimp only [cA,nA];refine' ϰf ?_;rotate_left
  (focus (split <;> (first | exact ω1 [_,_] [] (.le (.n 0) (.s (.s ξ0 ξ1) (.n 7))) (.nlt (.s ξ0 ξ1) (.n 7)) (by assumption) rfl | exact ω1 [_] [] (.le (.n 0) ξ0) (.le (.n 0) ξ0) (Int.emod_nonneg _ (by decide)) rfl)));(focus (split <;> (first | exact ω2 [_,_] [] (.lt (.s (.s ξ0 ξ1) (.n 7)) (.n 1000000)) (.le (.n 0) ξ1) (.le ξ0 (.n 31)) hm0 hb1 rfl | exact ω1 [_] [] (.lt ξ0 (.n 1000000)) (.lt ξ0 (.n 7)) (Int.emod_lt_of_pos _ (by decide)) rfl)));refine' ϰf ?_;refine' ϰd ?_;refine' asg (.add .i (.nm G6)) S9 rfl ?_
  refine' itc (.eq (.nm G6) .i) ?_;refine' qD (fun hc => (by exfalso;exact β2 [_] [] (.eq ξ0 (.n 4)) (.nlt ξ0 (.n 5)) hc (by assumption) rfl)) (fun hc => ?_);refine' itc (.gt (.nm G6) .i) ?_
  refine' qD (fun hc => ?_) (fun hc => (by exfalso;exact β2 [_] [] (.nlt (.n 4) ξ0) (.nlt ξ0 (.n 5)) hc (by assumption) rfl));refine' asn ?_ rfl;refine' ϰc ?_;refine' ϰi ?_;refine' ϰc ?_
  refine' ϰc ?_;refine' ϱD hcl hkz P0 ?_;refine' ϰi ?_;refine' ϱx ?_ ?_ ?_;decide;decide;refine' ϰi ?_
  refine' ϰC ?_ ?_;decide;refine' ϰX ?_;refine' setN S9 ?_;dsimp only [cA,nA];refine' ϰf ?_;refine' nn ?_;refine' ϰd ?_
  refine' asn ?_ rfl;refine' ϰr hG M5 ?_ rfl;refine' ϰe ?_ rfl;refine' ϰa G9 ?_;refine' ϰe ?_ rfl;refine' ϰr hG M3 ?_ rfl
  refine' ϰe ?_ rfl
  (focus (refine' ϰaL hcl hkz hG M0 G8 P0 ?_ ?_ rfl rfl (by intro _;rfl) (fun r D => ?_);rotate_left;rotate_left;dsimp only [cA,nA]))
  refine' ϰl ?_;refine' bytesM P0 ?_ ?_ ?_;exact modM;(focus (simp only [List.length_map,rangeKs_length];exact δrr rfl))
  refine' ϰz (.c (.nm G2) .n rfl) ?_;refine' ϰw ?_;refine' ϰaF F.K (by exact δa Fd rfl) ?_ ?_ hk ?_ ?_;exact δB rfl;exact δC rfl
  (focus (simp only [List.length_map,rangeKs_length];exact δrr rfl));refine' setN S10 ?_;dsimp only [cA,nA];refine' itc (.eq (.nm G6) .i) ?_
  refine' qD (fun hc => ?_) (fun hc => ?_);refine' asn ?_ rfl;refine' ϰc ?_;refine' ϰr hG M3 ?_ rfl;refine' ϰe ?_ rfl
  refine' ϰF ?_;refine' ϰe ?_ rfl;refine' ϰc ?_;refine' ϰc ?_;refine' ϰI ?_;refine' ϰa G10 ?_;refine' ϰi ?_
  refine' ϰH (fun _ _ => rfl) ?_ ?_ ?_ (fun _ _ => ?_);decide;(focus (simp only [ϰB,List.length_map,rangeKs_length];exact κ0 [] [_] (.lt (.n 0) (.c (.a ν0 (.n 7)))) [1] rfl))
  (focus (simp only [ϰB,List.length_map,rangeKs_length];exact ω2 [_] [_] (.Le (.a ν0 (.n 7)) (.n 16777216)) (.lt ξ0 (.n 7)) (.eq (.c ν0) ξ0) (Int.emod_lt_of_pos _ (by decide)) (Int.toNat_of_nonneg (δn rfl)) rfl));refine' ϰi ?_;refine' ϰX ?_;refine' ϰi ?_
  refine' ϰC ?_ ?_;decide;refine' ϰl ?_;refine' ϱr (zl rfl) (fun _ => ?_);dsimp only [cA,nA];refine' ϰl ?_
  refine' bytes1 P0 ?_ ?_ ?_;exact Int.emod_nonneg _ (by exact fun hq => β1 [] [] (.eq (.n 256) (.n 0)) hq rfl);exact δm rfl;refine' ϰQ ?_;refine' ϰa G10 ?_;refine' ϰy ?_
  refine' ϰi ?_;refine' isI ?_;refine' ϰK ?_;refine' isY ?_;refine' tupK (δc hF rfl) ?_;refine' ϰN ?_ ?_
  (focus (simp only [List.length_append,List.length_map,List.length_cons,List.length_nil,List.length_replicate,ϱa];exact ω1 [] [_] (.Le (.a (.a (.n 0) (.n 1)) ν0) (.n 16777216)) (.Le ν0 (.n 20)) hF1 rfl))
  refine' setN S10 ?_;dsimp only [cA,nA];refine' ϰf ?_;refine' ϰd ?_;refine' asn ?_ rfl;refine' ϰc ?_;refine' ϰa G3 ?_
  refine' ϰa G10 ?_;refine' ϰN ?_ ?_
  (focus (simp only [List.length_append,List.length_map,List.length_cons,List.length_nil,List.length_replicate,ϱa];exact κ5 [_] [_,_,_,_] (.Le (.a ν0 (.a ν1 (.n 1))) (.n 16777216)) (.Le ν1 (.n 20)) (.Le ν0 (.m 100 ν2)) (.Lt ν2 ν3) (.lt ξ0 (.n 5)) (.eq (.c ν3) ξ0) [1,1,1,100,100,100] hF1 hlen hi hv0.2 (Int.toNat_of_nonneg (δj hv0.1 rfl)) rfl))
  refine' setN S3 ?_;dsimp only [cA,nA];refine' ϰf ?_;rotate_left;refine' itc (.eq (.nm G6) .i) ?_;refine' qD (fun hc => ?_) (fun hc => ?_)
  refine' asn ?_ rfl;refine' ϰc ?_;refine' ϰc ?_;refine' ϰQ ?_;refine' ϰa G10 ?_;refine' ϰK ?_;refine' ϰy ?_
  refine' ϰi ?_;refine' isI ?_;refine' isY ?_;refine' tupK (δc hF rfl) ?_;refine' ϰr hG M3 ?_ rfl;refine' ϰe ?_ rfl
  refine' ϰF ?_;refine' ϰe ?_ rfl;refine' ϰc ?_;refine' ϱQ (.add (.nm G8) .i) ?_;refine' ϰc ?_;refine' ϰc ?_
  refine' ϱD hcl hkz P1 ?_;refine' ϰi ?_;refine' ϱx ?_ ?_ ?_;decide;decide;refine' ϰi ?_;refine' ϰC ?_ ?_;decide
  refine' ϰX ?_;refine' ϰl ?_;refine' ϱr (zl rfl) (fun _ => ?_);dsimp only [cA,nA];refine' ϰl ?_;refine' bytes1 P0 ?_ ?_ ?_
  exact ω2 [_,_] [] (.le (.n 0) (.a (.a ξ0 (.n 1)) ξ1)) (.le (.n 0) ξ0) (.le (.n 0) ξ1) (Int.emod_nonneg _ (by decide)) (Int.emod_nonneg _ (by decide)) rfl;exact ω2 [_,_] [] (.lt (.a (.a ξ0 (.n 1)) ξ1) (.n 256)) (.lt ξ0 (.n 7)) (.lt ξ1 (.n 40)) (Int.emod_lt_of_pos _ (by decide)) (Int.emod_lt_of_pos _ (by decide)) rfl;refine' ϰN ?_ ?_
  (focus (simp only [List.length_append,List.length_map,List.length_cons,List.length_nil,List.length_replicate,ϱa];exact ω1 [] [_] (.Le (.a ν0 (.a (.n 0) (.n 1))) (.n 16777216)) (.Le ν0 (.n 20)) hF2 rfl))
  refine' ϰQ ?_;refine' ϰa G10 ?_;refine' ϰy ?_;refine' ϰi ?_;refine' isI ?_;refine' ϰK ?_;refine' isY ?_
  refine' tupK (δc hF rfl) ?_;refine' ϰN ?_ ?_
  (focus (simp only [List.length_append,List.length_map,List.length_cons,List.length_nil,List.length_replicate,ϱa];exact ω2 [] [_,_] (.Le (.a (.a ν0 (.a (.n 0) (.n 1))) ν1) (.n 16777216)) (.Le ν1 (.n 20)) (.Le ν0 (.n 20)) hF3 hF2 rfl))
  refine' setN S10 ?_;dsimp only [cA,nA];refine' ϰf ?_;refine' nn ?_;refine' ϰd ?_;refine' asn ?_ rfl;refine' ϰc ?_
  refine' ϰa G3 ?_;refine' ϰa G10 ?_;refine' ϰN ?_ ?_
  (focus (simp only [List.length_append,List.length_map,List.length_cons,List.length_nil,List.length_replicate,ϱa];exact κ6 [_] [_,_,_,_,_] (.Le (.a ν0 (.a (.a ν1 (.a (.n 0) (.n 1))) ν2)) (.n 16777216)) (.Le ν2 (.n 20)) (.Le ν1 (.n 20)) (.Le ν0 (.m 100 ν3)) (.Lt ν3 ν4) (.lt ξ0 (.n 5)) (.eq (.c ν4) ξ0) [1,1,1,1,100,100,100] hF3 hF2 hlen hi hv0.2 (Int.toNat_of_nonneg (δj hv0.1 rfl)) rfl))
  refine' setN S3 ?_;dsimp only [cA,nA];refine' ϰf ?_;rotate_left;refine' itc (.eq (.nm G6) .i) ?_
  refine' qD (fun hc => ?_) (fun hc => (by exfalso;omega));refine' asn ?_ rfl;refine' ϰr hG M3 ?_ rfl;refine' ϰe ?_ rfl
  refine' ϰc ?_;refine' ϰF ?_;refine' ϰe ?_ rfl;refine' ϰc ?_;refine' ϰc ?_;refine' ϰc ?_
  refine' ϱD hcl hkz P1 ?_;refine' ϰi ?_;refine' ϱx ?_ ?_ ?_;decide;decide;refine' ϰi ?_;refine' ϰC ?_ ?_;decide
  refine' ϰc ?_;refine' ϱD hcl hkz P1 ?_;refine' ϰi ?_;refine' ϰC ?_ ?_;decide;refine' ϰS ?_ ?_ ?_;exact δqq rfl;exact δqq rfl
  refine' ϰl ?_;refine' ϱr (zl rfl) (fun _ => ?_);dsimp only [cA,nA];refine' ϰc ?_;refine' ϱD hcl hkz P2 ?_;refine' ϰi ?_
  refine' ϰC ?_ ?_;decide;refine' WBin.mulL P0 (by exact δn rfl) (by exact ω1 [_] [] (.le ξ0 (.n 16777216)) (.lt ξ0 (.n 11)) (Int.emod_lt_of_pos _ (by decide)) rfl) (fun _ => ?_);dsimp only [cA,nA];refine' ϰl ?_;refine' bytesR P0 ?_ ?_ ?_ ?_
  exact m2.1;exact m2.2;exact δrr rfl;refine' setN S10 ?_;dsimp only [cA,nA];refine' ϰf ?_;refine' nn ?_;refine' nn ?_;refine' ϰd ?_
  refine' asn ?_ rfl;refine' ϰc ?_;refine' ϰa G3 ?_;refine' ϰa G10 ?_;refine' ϰN ?_ ?_
  (focus (simp only [List.length_append,List.length_replicate,ϰB,List.length_map,rangeKs_length];exact κ6 [_,_] [_,_,_,_] (.Le (.a ν0 ν1) (.n 16777216)) (.Le ν0 (.m 100 ν2)) (.Lt ν2 ν3) (.lt ξ0 (.n 5)) (.lt ξ1 (.n 11)) (.eq (.c ν3) ξ0) (.eq (.c ν1) ξ1) [1,1,100,100,1,100,1] hlen hi hv0.2 (Int.emod_lt_of_pos _ (by decide)) (Int.toNat_of_nonneg (δj hv0.1 rfl)) (Int.toNat_of_nonneg (δn rfl)) rfl));refine' setN S3 ?_;dsimp only [cA,nA]
  refine' ϰf ?_;rotate_left;exact Int.emod_nonneg _ (by exact fun hq => β1 [] [] (.eq (.n 7) (.n 0)) hq rfl);exact δm rfl;exact κ0 [] [_] (.le (.n 0) (.a (.n 2) (.a (.n 0) (.r (.c ν0) 1)))) [1] rfl;exact ω3 [_] [_,_] (.lt (.a (.n 2) (.a (.n 0) (.r (.c ν0) 1))) (.n 100)) (.Lt ν0 ν1) (.lt ξ0 (.n 5)) (.eq (.c ν1) ξ0) hi hv0.2 (Int.toNat_of_nonneg (δj hv0.1 rfl)) rfl
  all_goals first
   |(refine ϱK (some (.int (yF ns i / 8))) trivial ?_
     rw [hs1]
     first
      | rw [old1 (by assumption) (by assumption) (by assumption)]
      | rw [old2 (by assumption) (by assumption) (by assumption)]
      | rw [old3 (by assumption) (by assumption) (by assumption)]
      | rw [old4 (by assumption) (by assumption) (by assumption)]
      | rw [old5 (by assumption) (by assumption)]
      | rw [old6 (by assumption) (by assumption) (by assumption)]
      | rw [old7 (by assumption) (by assumption) (by assumption)]
     exact ⟨LM 2032 _,by (first | exact .cons P2 (.cons P1 (.nil _)) | exact .cons P3 (.cons P2 (.nil _)))⟩)
   | trace_state
 ·intro o _
  refine' nx ?_;refine' ϰP ?_;refine' ϰa G3 ?_;refine' ϰm ?_;refine' ϰx ?_;rotate_left
  refine ⟨_,?_,h⟩
  exact ⟨LocLe.refl _,.cons P0 (.skip _ (.refl _))⟩
end
noncomputable abbrev Ev := Int × Y × Int
noncomputable abbrev evA (e : Ev) : AV := .tup [.int e.1,.bytes e.2.1,.int e.2.2]
structure PS where
 f : List Ev
 t : Bool
 p : Y
noncomputable abbrev pSz (p : Y) : Int := 7 + p.getD (4 : Int).toNat 0 + 256 * p.getD (5 : Int).toNat 0
noncomputable abbrev pPc (p : Y) : Y := cut p none (some (pSz p))
noncomputable abbrev pBd (p : Y) : Y := cut (pPc p) (some 7) none
noncomputable def pcStep (check : Int) (short : Bool) (upto : Int) (s : PS) : PS :=
 if (s.p.length : Int) < pSz s.p ∧ short = true then ⟨s.f,true,[]⟩
 else if pSz s.p = 7 ∧ (pPc s.p).getD (6 : Int).toNat 0 = 0 then ⟨s.f ++ [(-2,[],0)],s.t,[]⟩
 else if (s.p.length : Int) < pSz s.p ∨ fragY ((pPc s.p).getD (6 : Int).toNat 0) (pBd s.p) check ≠ pPc s.p then ⟨s.f ++ [(-1,s.p,0)],s.t,[]⟩
 else ⟨s.f ++ [((pPc s.p).getD (6 : Int).toNat 0,pBd s.p,upto - ((cut s.p (some (pSz s.p)) none).length : Int))],s.t,cut s.p (some (pSz s.p)) none⟩
noncomputable def pcs (check : Int) (short : Bool) (upto : Int) : Nat → PS → PS
 | 0,s => s
 | n + 1,s => if 7 ≤ (s.p.length : Int) then pcs check short upto n (pcStep check short upto s) else s
theorem ϱS {check upto : Int} {short : Bool} : ∀ {n : Nat} {s : PS},¬ 7 ≤ (s.p.length : Int) → pcs check short upto n s = s
 | 0,_,_ => rfl
 | n + 1,s,h => by simp only [pcs,if_neg h]
section
variable {check upto : Int} {short : Bool} {f : List Ev} {t : Bool} {p : Y}
theorem pc1 (h1 : (p.length : Int) < pSz p) (h2 : short = true) : pcStep check short upto ⟨f,t,p⟩ = ⟨f,true,[]⟩ := by unfold pcStep;rw [if_pos ⟨h1,h2⟩]
theorem pc2 (h0 : ¬ ((p.length : Int) < pSz p ∧ short = true)) (h1 : pSz p = 7) (h2 : (pPc p).getD (6 : Int).toNat 0 = 0) : pcStep check short upto ⟨f,t,p⟩ = ⟨f ++ [(-2,[],0)],t,[]⟩ := by unfold pcStep;rw [if_neg h0,if_pos ⟨h1,h2⟩]
theorem pc3 (h0 : ¬ ((p.length : Int) < pSz p ∧ short = true)) (h1 : ¬ (pSz p = 7 ∧ (pPc p).getD (6 : Int).toNat 0 = 0)) (h2 : (p.length : Int) < pSz p ∨ fragY ((pPc p).getD (6 : Int).toNat 0) (pBd p) check ≠ pPc p) : pcStep check short upto ⟨f,t,p⟩ = ⟨f ++ [(-1,p,0)],t,[]⟩ := by unfold pcStep;rw [if_neg h0,if_neg h1,if_pos h2]
theorem pc4 (h0 : ¬ ((p.length : Int) < pSz p ∧ short = true)) (h1 : ¬ (pSz p = 7 ∧ (pPc p).getD (6 : Int).toNat 0 = 0)) (h2 : ¬ ((p.length : Int) < pSz p ∨ fragY ((pPc p).getD (6 : Int).toNat 0) (pBd p) check ≠ pPc p)) :
  pcStep check short upto ⟨f,t,p⟩ = ⟨f ++ [((pPc p).getD (6 : Int).toNat 0,pBd p,upto - ((cut p (some (pSz p)) none).length : Int))],t,cut p (some (pSz p)) none⟩ := by unfold pcStep;rw [if_neg h0,if_neg h1,if_neg h2]
end
noncomputable abbrev bkPart (d : Y) (block : Int) (i : Nat) : Y := cut d (some (0 + (i : Int) * block)) (some (0 + (i : Int) * block + block))
noncomputable def outStep (d : Y) (block check : Int) (i : Nat) (s : List Ev × Bool) : List Ev × Bool :=
 let r := pcs check (decide (((bkPart d block i).length : Int) < block)) (0 + (i : Int) * block + ((bkPart d block i).length : Int)) (bkPart d block i).length ⟨s.1,s.2,bkPart d block i⟩
 (r.f,if decide (((bkPart d block i).length : Int) < block) = true ∧ 0 < (r.p.length : Int) then true else r.t)
noncomputable def outF (d : Y) (block check : Int) : Nat → List Ev × Bool
 | 0 => ([],false)
 | i + 1 => outStep d block check i (outF d block check i)
noncomputable abbrev nBk (d : Y) (block : Int) : Nat := (Builtin.Range.rangeSize 0 (d.length : Int) block).toNat
noncomputable def piecesF (d : Y) (block check : Int) : List Ev × Bool := outF d block check (nBk d block)
theorem nBk_size {d : Y} {block : Int} (hb : 8 ≤ block) : Builtin.Range.rangeSize 0 (d.length : Int) block = (nBk d block : Int) := by
 unfold nBk
 have : 0 ≤ Builtin.Range.rangeSize 0 (d.length : Int) block := by
  unfold Builtin.Range.rangeSize
  have h := Int.ediv_nonneg (a := (d.length : Int) - 0 - 1) (b := block)
  split
  ·split
   ·have := h (by exact ω1 [] [_] (.le (.n 0) (.s (.s (.c ν0) (.n 0)) (.n 1))) (.lt (.n 0) (.c ν0)) (by assumption) rfl) (by exact δj hb rfl);exact δJ this rfl
   ·decide
  ·exact κ2 [_,_] [] (.le (.n 0) ξ0) (.le (.n 8) ξ1) (.nlt (.n 0) ξ1) [0,1,1] hb (by assumption) rfl
 exact η2 [_] [_] (.eq ξ0 (.c ν0)) (.le ξ0 (.c ν0)) (.eq (.c ν0) ξ0) [1,0,1] [1,1,0] (Int.self_le_toNat _) (Int.toNat_of_nonneg (δj this rfl)) rfl
theorem small_blk {n block : Int} (h0 : 0 ≤ n) (h1 : n ≤ 100000) (hb : 8 ≤ block) (hb1 : block ≤ 100000) : Builtin.Range.small 0 n block = true := by
 have hq : 0 < n → 0 ≤ (n - 0 - 1) / block ∧ (n - 0 - 1) / block ≤ n - 0 - 1 := fun hp => ⟨Int.ediv_nonneg (by exact ω1 [_] [] (.le (.n 0) (.s (.s ξ0 (.n 0)) (.n 1))) (.lt (.n 0) ξ0) hp rfl) (by exact δj hb rfl),Int.ediv_le_self _ (by exact ω1 [_] [] (.le (.n 0) (.s (.s ξ0 (.n 0)) (.n 1))) (.lt (.n 0) ξ0) hp rfl)⟩
 unfold Builtin.Range.small Builtin.Range.rangeSize
 simp only [Builtin.Range.rangeFitsLong,Bool.and_eq_true,Bool.or_eq_true,decide_eq_true_eq,beq_iff_eq,show block > 0 by exact δl hb rfl,if_true]
 by_cases hn : 0 < n
 ·have := hq hn
  simp only [hn,if_true];exact ⟨⟨⟨⟨⟨by decide,by decide⟩,⟨ω2 [_,_] [] (.le (.n (-9223372036854775808)) ξ0) (.le (.n 0) ξ1) (.le ξ1 (.s (.s ξ0 (.n 0)) (.n 1))) this.1 this.2 rfl,δo h1 rfl⟩⟩,⟨δj hb rfl,δo hb1 rfl⟩⟩,⟨δJ this.1 rfl,ω2 [_,_] [] (.lt (.a ξ0 (.n 1)) (.n 9223372036854775808)) (.le ξ0 (.s (.s ξ1 (.n 0)) (.n 1))) (.le ξ1 (.n 100000)) this.2 h1 rfl⟩⟩,.inr (⟨ω3 [_,_,_] [] (.le (.n (-9223372036854775808)) (.a ξ0 (.s ξ1 (.n 1)))) (.le (.n 0) ξ2) (.le ξ2 (.s (.s ξ0 (.n 0)) (.n 1))) (.le (.n 8) ξ1) this.1 this.2 hb rfl,ω2 [_,_] [] (.lt (.a ξ0 (.s ξ1 (.n 1))) (.n 9223372036854775808)) (.le ξ1 (.n 100000)) (.le ξ0 (.n 100000)) hb1 h1 rfl⟩)⟩
 ·simp only [hn,if_false];exact ⟨⟨⟨⟨⟨by decide,by decide⟩,⟨δj h0 rfl,ω1 [_] [] (.lt ξ0 (.n 9223372036854775808)) (.nlt (.n 0) ξ0) hn rfl⟩⟩,⟨δj hb rfl,δo hb1 rfl⟩⟩,⟨by decide,by decide⟩⟩,.inr (⟨ω2 [_,_] [] (.le (.n (-9223372036854775808)) (.a ξ0 (.s ξ1 (.n 1)))) (.le (.n 8) ξ1) (.le (.n 0) ξ0) hb h0 rfl,ω2 [_,_] [] (.lt (.a ξ0 (.s ξ1 (.n 1))) (.n 9223372036854775808)) (.nlt (.n 0) ξ0) (.le ξ1 (.n 100000)) hn hb1 rfl⟩)⟩
theorem pcStep_len {check upto : Int} {short : Bool} {s : PS} : (pcStep check short upto s).f.length ≤ s.f.length + 1 := by
 unfold pcStep;split <;> (try split) <;> (try split) <;> simp
theorem pcs_len {check upto : Int} {short : Bool} : ∀ {n : Nat} {s : PS},(pcs check short upto n s).f.length ≤ s.f.length + n
 | 0,s => Nat.le_refl _
 | n + 1,s => by
  simp only [pcs]
  split
  ·have h1 := pcs_len (check := check) (upto := upto) (short := short) (n := n) (s := pcStep check short upto s)
   have h2 := pcStep_len (check := check) (upto := upto) (short := short) (s := s)
   exact ω2 [] [_,_,_,_] (.Le ν0 (.a ν1 (.a ν2 (.n 1)))) (.Le ν3 (.a ν1 (.n 1))) (.Le ν0 (.a ν3 ν2)) h2 h1 rfl
  ·exact κ0 [] [_,_] (.Le ν0 (.a ν0 (.a ν1 (.n 1)))) [1] rfl
theorem mmL (a b L : Nat) : min a L - min b L ≤ a - b := by
 rcases Nat.le_total b L with h | h
 ·rw [Nat.min_eq_left h];exact Nat.sub_le_sub_right (Nat.min_le_left a L) b
 ·rw [Nat.min_eq_right h,Nat.sub_eq_zero_of_le (Nat.min_le_right a L)];exact Nat.zero_le _
theorem bkPart_len {d : Y} {block : Int} {i : Nat} (hb0 : 8 ≤ block) (hb1 : block ≤ 31) : (bkPart d block i).length ≤ 31 := by
 unfold bkPart cut
 rw [List.length_take]
 have : 0 ≤ (i : Int) * block := Int.mul_nonneg (by exact δz _) (by exact δj hb0 rfl)
 have h1 : ¬ (0 + (i : Int) * block < 0) := by exact ω1 [_] [] (.nlt (.a (.n 0) ξ0) (.n 0)) (.le (.n 0) ξ0) this rfl
 have h2 : ¬ (0 + (i : Int) * block + block < 0) := by exact ω2 [_,_] [] (.nlt (.a (.a (.n 0) ξ0) ξ1) (.n 0)) (.nlt (.a (.n 0) ξ0) (.n 0)) (.le (.n 8) ξ1) h1 hb0 rfl
 simp only [kms_lo,kms_hi,h1,h2,if_false]
 refine Nat.le_trans (Nat.min_le_left _ _) (Nat.le_trans (mmL _ _ _) ?_)
 have h3 := Int.toNat_of_nonneg (show 0 ≤ 0 + (i : Int) * block + block by exact ω1 [_,_] [] (.le (.n 0) (.a (.a (.n 0) ξ0) ξ1)) (.nlt (.a (.a (.n 0) ξ0) ξ1) (.n 0)) h2 rfl)
 have h4 := Int.toNat_of_nonneg (show 0 ≤ 0 + (i : Int) * block by exact ω1 [_] [] (.le (.n 0) (.a (.n 0) ξ0)) (.nlt (.a (.n 0) ξ0) (.n 0)) h1 rfl)
 exact κ4 [_,_] [_,_,_] (.Le ν0 (.n 31)) (.eq (.c ν1) (.a (.n 0) ξ0)) (.eq (.c ν2) (.a (.a (.n 0) ξ0) ξ1)) (.le ξ1 (.n 31)) (.Eq (.a ν0 ν1) ν2) [1,-1,1,1,1] h4 h3 hb1 (Nat.sub_add_cancel (κ3 [_,_] [_,_] (.Le ν0 ν1) (.eq (.c ν0) (.a (.n 0) ξ0)) (.eq (.c ν1) (.a (.a (.n 0) ξ0) ξ1)) (.le (.n 8) ξ1) [1,1,-1,1] h4 h3 hb0 rfl)) rfl
theorem outF_len {d : Y} {block check : Int} (hb0 : 8 ≤ block) (hb1 : block ≤ 31) : ∀ i,(outF d block check i).1.length ≤ 31 * i
 | 0 => Nat.le_refl _
 | i + 1 => by
  have h1 := outF_len (d := d) (check := check) hb0 hb1 i
  have h2 := pcs_len (check := check) (short := decide (((bkPart d block i).length : Int) < block)) (upto := 0 + (i : Int) * block + ((bkPart d block i).length : Int)) (n := (bkPart d block i).length) (s := ⟨(outF d block check i).1,(outF d block check i).2,bkPart d block i⟩)
  have h3 := bkPart_len (d := d) (i := i) hb0 hb1
  simp only [outF,outStep]
  dsimp only at h2
  exact ω3 [] [_,_,_,_] (.Le ν0 (.m 31 (.a ν1 (.n 1)))) (.Le ν2 (.n 31)) (.Le ν0 (.a ν3 ν2)) (.Le ν3 (.m 31 ν1)) h3 h2 h1 rfl
theorem nBk_le {d : Y} {block : Int} (hb : 8 ≤ block) (hz : d.length ≤ 2000) : nBk d block ≤ 2000 := by
 unfold nBk Builtin.Range.rangeSize
 split
 ·split
  ·have := Int.ediv_le_self (a := (d.length : Int) - 0 - 1) block (by exact ω1 [] [_] (.le (.n 0) (.s (.s (.c ν0) (.n 0)) (.n 1))) (.lt (.n 0) (.c ν0)) (by assumption) rfl);omega
  ·exact Nat.le_of_ble_eq_true rfl
 ·exact κ2 [_] [_] (.Le ν0 (.n 2000)) (.le (.n 8) ξ0) (.nlt (.n 0) ξ0) [0,1,1] hb (by assumption) rfl
structure SS where
 recs : List (Y × Int)
 lost : Int
 whys : Int
 breaks : Int
 oe : Bool
 behind : List Ev
 ender : Int
noncomputable def leadN (b : List Ev) : Nat := (b.takeWhile (fun e => e.1 = 3)).length
noncomputable def flat (b : List Ev) (n : Nat) : Y := ((b.take n).map (·.2.1)).flatten
noncomputable def orph (b : List Ev) (n : Nat) : Int := (((b.take n).map (fun e => (e.2.1.length : Int)))).sum
noncomputable def evD : Ev := (0,[],0)
noncomputable def st2 (octets : Y) (s : SS) : SS :=
 let u := leadN s.behind
 let oc := octets ++ flat s.behind u
 let b' := s.behind.drop (u + 1)
 if u < s.behind.length then { s with recs := (oc ++ (s.behind.getD u evD).2.1,(s.behind.getD u evD).2.2) :: s.recs,behind := b' }
 else if s.ender = 9999 then { s with oe := true,behind := b' }
 else if s.ender = 1 ∨ s.ender = 2 then { s with lost := s.lost + oc.length,breaks := s.breaks + 1,whys := s.whys + mnF 1 oc.length,behind := b' }
 else if s.ender < 0 then { s with lost := s.lost + oc.length,whys := s.whys + 1,behind := b' }
 else { s with lost := s.lost + oc.length,behind := b' }
noncomputable def stO (s : SS) : SS := { s with lost := s.lost + orph s.behind s.behind.length,whys := s.whys + s.behind.length,breaks := s.breaks + s.behind.length,behind := [] }
noncomputable def stK (e : Ev) (s : SS) : SS :=
 if e.1 = 1 then { s with recs := (e.2.1,e.2.2) :: s.recs,ender := e.1 }
 else if e.1 ≠ 2 ∧ e.1 ≠ -3 then (if e.1 ≠ -2 then { s with lost := s.lost + e.2.1.length,breaks := s.breaks + 1,whys := s.whys + 1,ender := e.1 } else { s with lost := s.lost + e.2.1.length,breaks := s.breaks + 1,ender := e.1 })
 else { s with ender := e.1 }
noncomputable def stStep (e : Ev) (s : SS) : SS :=
 if e.1 = 3 ∨ e.1 = 4 then { s with behind := e :: s.behind }
 else stK e (stO (if e.1 = 2 then st2 e.2.1 s else s))
noncomputable def SS0 : SS := ⟨[],0,0,0,false,[],9999⟩
noncomputable def evAt (f : List Ev) (i : Nat) : Ev := if 0 ≤ (f.length : Int) - 1 + (i : Int) * (-1) then f.getD ((f.length : Int) - 1 + (i : Int) * (-1)).toNat evD else (-3,[],0)
noncomputable def storyN (f : List Ev) : Nat → SS
 | 0 => SS0
 | i + 1 => stStep (evAt f i) (storyN f i)
noncomputable def storyF (f : List Ev) : SS := storyN f (f.length + 1)
noncomputable abbrev recA (r : Y × Int) : AV := .tup [.bytes r.1,.int r.2]
set_option maxHeartbeats 4000000
section
variable {c : Cx} {σ : St} {dp un : Nat} {Φ : AV → St → Prop}
theorem nb1 {A B : Prop} (h : ¬ A) : ¬ (A ∧ B) := fun x => h x.1
theorem nb2 {A : Prop} {s : Bool} (h : s = false) : ¬ (A ∧ s = true) := fun x => by rw [h] at x;exact absurd x.2 (by decide)
theorem nb3 {A : Prop} {s : Bool} (h : s = false) : ¬ (s = true ∧ A) := fun x => by rw [h] at x;exact absurd x.1 (by decide)
theorem nb4 {A B : Prop} (h : ¬ B) : ¬ (A ∧ B) := fun x => h x.2
theorem nor2 {A B : Prop} (h : ¬ A) (h' : ¬ B) : ¬ (A ∨ B) := fun x => x.elim h h'
theorem cut_len2 {p : Y} {s : Int} (h : 0 ≤ s) : (cut p none (some s)).length = min s.toNat p.length := by rw [ϰah p h,List.length_take]
theorem cut_len3 {p : Y} {s : Int} (h : 0 ≤ s) : (cut p (some s) none).length = p.length - s.toNat := by rw [ϱs p h,List.length_drop]
structure PI where
 n : Nat
 s : PS
theorem pieces_ok {d : Y} {block check : Int} (hK : c.K = mk0.heap_1 c.w.params) (hr : dp + 6 < 900) (hb0 : 8 ≤ block) (hb1 : block ≤ 31) (hk : check = 1 ∨ check = 2) (hz : d.length ≤ 2000) (h : ∀ l,Φ (.tup [.ref l,.bool (piecesF d block check).2]) ⟨σ.loc,(l,.list ((piecesF d block check).1.map evA)) :: σ.hp⟩) : Enters c dp un 263 [.bytes d,.int block,.int check] σ Φ := by
 refine Enters.post ?_
 refine Enters.of (args := ["data","block","check"]) (more := ["found","torn","start","part","upto","short","size","piece"]) (G := [("range",.raw (.type "range")),("len",.raw (.builtin "len")),("make_fragment",.raw (.ref 146))]) (foot := []) (rest := σ.hp) (by rw [hK];k_is) (by rw [hK];k_is) (room hr) rfl (fun vs e => by obtain ⟨v0,v1,v2,rfl⟩ := len3 e;rfl) (by decide) (by rfl) (by rfl) rfl rfl rfl (by rw [hK];exact (ϰg (gf_range _) (ϰg (ϰaD _) (ϰg (ϱO _) ϰD)))) (by rfl) (List.Perm.refl _) ?_
 intro c' I
 have F : Fix mk0.heap_1 c' 5 := I.fix hK (by exact δb hr rfl)
 have hG := I.glob
 have hcb : c'.cb = c.cb := I.cb
 have Fd := F.dp
 show WSs c' _ ⟨[("data",some (.bytes d)),("block",some (.int block)),("check",some (.int check)),("found",none),("torn",none),("start",none),("part",none),("upto",none),("short",none),("size",none),("piece",none)],_⟩ _
 have hfl : ∀ i,(outF d block check i).1.length ≤ 31 * i := outF_len hb0 hb1
 refine' asn ?_ rfl;refine' ϰF ?_;refine' ϰl ?_;refine' ϱr (zl rfl) (fun _ => ?_);dsimp only [cA,nA];refine' setN S3 ?_
 refine' asg .bo S4 rfl ?_;refine' ϰh ?_;refine' ϱP ?_ (by intro _;rfl);refine' ϰr hG M0 ?_ rfl
 refine' ϰe ?_ rfl;refine' ϰi ?_;refine' ϰe ?_ rfl;refine' ϰs hG M1 (.c (.nm G0) .n rfl) rfl ?_;refine' ϰv ?_ ?_;exact δc hz rfl
 refine' ϰz (.c (.nm G1) .n rfl) ?_;refine' ϱY (by exact fun hq => δF hb0 hq rfl) (by exact ω2 [_] [_] (.Lt ν0 (.n 1073741824)) (.le ξ0 (.n 31)) (.eq (.c ν0) ξ0) hb1 (Int.natAbs_of_nonneg (δj hb0 rfl)) rfl) (fun _ => ?_);dsimp only [cA,nA];rotate_left
 rename_i l r
 refine ForOK.range (ι := Unit) (nBk d block) (P := fun i _ => i ≤ nBk d block) (J := fun i _ => ⟨[("data",some (.bytes d)),("block",some (.int block)),("check",some (.int check)),("found",some (.ref l)),("torn",some (.bool (outF d block check i).2)),("start",none),("part",none),("upto",none),("short",none),("size",none),("piece",none)],[(l,.list ((outF d block check i).1.map evA))]⟩) () P0 (nBk_size hb0) (small_blk (by exact δz _) (by exact ω1 [] [_] (.le (.c ν0) (.n 100000)) (.Le ν0 (.n 2000)) hz rfl) hb0 (by exact δk hb1 rfl)) (Nat.zero_le _) ⟨LocLe.refl _,Sel.cons (Pick.tail _ (Pick.head _)) (Sel.nil _)⟩ ?_ ?_
 ·intro i _ hi _
  have hnb : nBk d block ≤ 2000 := nBk_le hb0 hz
  have hpl : (bkPart d block i).length ≤ 31 := bkPart_len hb0 hb1
  refine' ϱh S5 ?_;dsimp only [cA,nA];refine' asn ?_ rfl;refine' ϰQ ?_;refine' ϰa G0 ?_;refine' ϰy ?_;refine' ϰa G5 ?_
  refine' isI ?_;refine' ϰy ?_;refine' ϱQ (.add (.nm G5) (.nm G1)) ?_;refine' isI ?_;refine' isY ?_;refine' tupK (δc hz rfl) ?_
  refine' setN S6 ?_;dsimp only [cA,nA];refine' asn ?_ rfl;refine' ϰc ?_;refine' ϰa G5 ?_;refine' ϰs hG M1 (.c (.nm G6) .n rfl) rfl ?_
  refine' ϰv ?_ ?_;refine' ϱz ?_;exact δc hz rfl;refine' ϰX ?_;refine' setN S7 ?_;dsimp only [cA,nA];refine' asn ?_ rfl;refine' WE.cmp ?_ rfl
  refine' ϰs hG M1 (.c (.nm G6) .n rfl) rfl ?_;refine' ϰv ?_ ?_;refine' ϱz ?_;exact δc hz rfl;refine' ϰa G1 ?_;refine' ϱV ?_
  refine' setN S8 ?_;dsimp only [cA,nA];refine' ϰh ?_;rotate_left
  refine ϰab (ι := PI) (P := fun j => pcs check (decide (((bkPart d block i).length : Int) < block)) (0 + (i : Int) * block + ((bkPart d block i).length : Int)) j.n j.s = pcs check (decide (((bkPart d block i).length : Int) < block)) (0 + (i : Int) * block + ((bkPart d block i).length : Int)) (bkPart d block i).length ⟨(outF d block check i).1,(outF d block check i).2,bkPart d block i⟩ ∧ j.s.p.length ≤ j.n ∧ j.s.p.length ≤ 31 ∧ j.s.f.length + j.n ≤ 10000000) (μ := fun j => j.n) (I := fun j => ⟨[("data",some (.bytes d)),("block",some (.int block)),("check",some (.int check)),("found",some (.ref l)),("torn",some (.bool j.s.t)),("start",none),("part",some (.bytes j.s.p)),("upto",some (.int (0 + (i : Int) * block + ((bkPart d block i).length : Int)))),("short",some (.bool (decide (((bkPart d block i).length : Int) < block)))),("size",none),("piece",none)],[(l,.list (j.s.f.map evA))]⟩) ⟨(bkPart d block i).length,⟨(outF d block check i).1,(outF d block check i).2,bkPart d block i⟩⟩ ⟨rfl,Nat.le_refl _,hpl,by have := hfl i;dsimp only;exact κ4 [] [_,_,_,_] (.Le (.a ν0 ν1) (.n 10000000)) (.Le ν0 (.m 31 ν2)) (.Le ν1 (.n 31)) (.Le ν3 (.n 2000)) (.Lt ν2 ν3) [1,1,1,31,31] this hpl hnb hi rfl⟩ ⟨LM 32 _,.refl _⟩ ?_
  have hs1 : outF d block check (i + 1) = outStep d block check i (outF d block check i) := rfl
  unfold outStep at hs1
  generalize hres : pcs check (decide (((bkPart d block i).length : Int) < block)) (0 + (i : Int) * block + ((bkPart d block i).length : Int)) (bkPart d block i).length ⟨(outF d block check i).1,(outF d block check i).2,bkPart d block i⟩ = res at *
  generalize hsh : decide (((bkPart d block i).length : Int) < block) = sh at *
  generalize hup : 0 + (i : Int) * block + ((bkPart d block i).length : Int) = up at *
  dsimp only at hs1
  clear hres
  rintro ⟨n,f,t,p⟩ ⟨hA,hB,hC,hD⟩
  dsimp only at hA hB hC hD
  show WT c' _ ⟨[("data",some (.bytes d)),("block",some (.int block)),("check",some (.int check)),("found",some (.ref l)),("torn",some (.bool t)),("start",none),("part",some (.bytes p)),("upto",some (.int up)),("short",some (.bool sh)),("size",none),("piece",none)],[(l,.list (f.map evA))]⟩ _
  have hsz : 7 ≤ (p.length : Int) → 0 ≤ p.getD (4 : Int).toNat 0 → 0 ≤ p.getD (5 : Int).toNat 0 → 7 ≤ ((cut p none (some (7 + p.getD (4 : Int).toNat 0 + 256 * p.getD (5 : Int).toNat 0))).length : Int) := fun h1 h2 h3 => by rw [cut_len2 (by exact κ2 [_,_] [] (.le (.n 0) (.a (.a (.n 7) ξ0) (.m 256 ξ1))) (.le (.n 0) ξ1) (.le (.n 0) ξ0) [1,256,1] h3 h2 rfl)];omega
  have hs2 : (cut p none (some (7 + p.getD (4 : Int).toNat 0 + 256 * p.getD (5 : Int).toNat 0))).length ≤ 31 := ϱz hC
  refine' ϰu ?_ rfl;refine' ϰs hG M1 (.c (.nm G6) .n rfl) rfl ?_;refine' ϰv ?_ ?_;exact δc hC rfl;refine' ϰi ?_;refine' WCmp.geI ?_
  refine' isB ?_;refine' qD (fun hc => ?_) (fun hc => ?_);refine' asn ?_ rfl;refine' ϰc ?_;refine' ϰc ?_;refine' ϰi ?_
  refine' ϰI ?_;refine' ϰa G6 ?_;refine' ϰi ?_;refine' ϰH (fun _ _ => rfl) ?_ ?_ ?_ (fun _ _ => ?_);decide;exact δl hc rfl;exact δc hC rfl
  refine' ϰX ?_;refine' ϰc ?_;refine' ϰi ?_;refine' ϰI ?_;refine' ϰa G6 ?_;refine' ϰi ?_
  refine' ϰH (fun _ _ => rfl) ?_ ?_ ?_ (fun _ _ => ?_);decide;exact δl hc rfl;exact δc hC rfl;refine' ϰS ?_ ?_ ?_
  (focus (have := hsz (by assumption) (by assumption) (by assumption);exact Nat.le_of_ble_eq_true rfl))
  (focus (have := hsz (by assumption) (by assumption) (by assumption);exact δq (by assumption) (by assumption) rfl));refine' ϰX ?_;refine' setN S9 ?_;dsimp only [cA,nA];refine' asn ?_ rfl
  refine' ϰQ ?_;refine' ϰa G6 ?_;refine' ϰK ?_;refine' ϰy ?_;refine' ϰa G9 ?_;refine' isI ?_;refine' isY ?_
  refine' tupK (δc hC rfl) ?_;refine' setN S10 ?_;dsimp only [cA,nA];refine' itn ?_;refine' ϱb ?_;refine' ϰu ?_ rfl;refine' ϰa G9 ?_
  refine' ϰs hG M1 (.c (.nm G6) .n rfl) rfl ?_;refine' ϰv ?_ ?_;(focus (have := hsz (by assumption) (by assumption) (by assumption);exact δc hC rfl))
  refine' ϱW ?_;refine' isB ?_;refine' qD (fun hc => ?_) (fun hc => ?_);refine' ϱb ?_;refine' ϰU (.vb (.nm G8) rfl) ?_
  refine' ϰaZ (fun hc => ?_) (fun hc => ?_);refine' ϱn ?_;refine' tT ?_;refine' asg .bo S4 rfl ?_;refine' asn ?_ rfl
  refine' ϰM (ks := []) rfl ?_;refine' setN S6 ?_;dsimp only [cA,nA];refine' ϰf ?_;refine' nn ?_;rotate_left;refine' fT ?_;refine' itn ?_
  refine' ϱb ?_;refine' ϰU (.eq (.nm G9) .i) ?_;refine' qD (fun hc => (by exfalso;exact β3 [_,_] [_] (.eq (.a (.a (.n 7) ξ0) (.m 256 ξ1)) (.n 7)) (.lt (.c ν0) (.a (.a (.n 7) ξ0) (.m 256 ξ1))) (.le (.n 7) (.c ν0)) hc (by assumption) (by assumption) rfl)) (fun hc => ?_);refine' fT ?_;refine' itn ?_
  refine' ϰY ?_;refine' ϰu ?_ rfl;refine' ϰa G9 ?_;refine' ϰs hG M1 (.c (.nm G6) .n rfl) rfl ?_;refine' ϰv ?_ ?_
  (focus (have := hsz (by assumption) (by assumption) (by assumption);exact δc hC rfl));refine' ϱW ?_;refine' isB ?_
  refine' qD' (fun hc => (by exfalso;exact β2 [_,_] [_] (.nlt (.c ν0) (.a (.a (.n 7) ξ0) (.m 256 ξ1))) (.lt (.c ν0) (.a (.a (.n 7) ξ0) (.m 256 ξ1))) hc (by assumption) rfl)) (fun hc => ?_);refine' tT ?_;refine' ϰh ?_;refine' ϰt ?_ rfl;refine' ϱw ?_ rfl rfl rfl
  refine' ϰa G3 ?_;refine' appK1 P0 ?_;refine' ϰG ?_;refine' ϰz (.c .ng (.c (.nm G6) (.c .i .n rfl) rfl) rfl) ?_
  refine' tupK (zl rfl) ?_;refine' appK2 P0 (lmp (ω1 [] [_,_] (.Le ν0 (.n 16777216)) (.Le (.a ν0 ν1) (.n 10000000)) hD rfl)) ?_;dsimp only [cA,nA];refine' ϰZ ?_;refine' ϰd ?_;refine' asn ?_ rfl
  refine' ϰM (ks := []) rfl ?_;refine' setN S6 ?_;dsimp only [cA,nA];refine' ϰf ?_;refine' nn ?_;refine' nn ?_;refine' nn ?_;rotate_left
  refine' fT ?_;refine' itn ?_;refine' ϱb ?_;refine' ϰU (.eq (.nm G9) .i) ?_;refine' qD (fun hc => ?_) (fun hc => ?_);refine' ϱb ?_
  refine' ϰu ?_ rfl;refine' ϰI ?_;refine' ϰa G10 ?_;refine' ϰi ?_;refine' ϰH (fun _ _ => rfl) ?_ ?_ ?_ (fun _ _ => ?_)
  (focus (have := hsz (by assumption) (by assumption) (by assumption);decide))
  (focus (have := hsz (by assumption) (by assumption) (by assumption);exact δl this rfl))
  (focus (have := hsz (by assumption) (by assumption) (by assumption);exact δc hs2 rfl));refine' ϰi ?_;refine' ϰaj ?_;refine' isB ?_
  refine' qD (fun hc => ?_) (fun hc => ?_);refine' ϱn ?_;refine' tT ?_;refine' ϰh ?_;refine' ϰt ?_ rfl
  refine' ϱw ?_ rfl rfl rfl;refine' ϰa G3 ?_;refine' appK1 P0 ?_;refine' ϰG ?_;refine' ϰe ?_ rfl;refine' WE.negC ?_
  refine' ϰe ?_ rfl;refine' ϰM (ks := []) rfl ?_;refine' ϰz (.c .i .n rfl) ?_;refine' tupK (zl rfl) ?_
  refine' appK2 P0 (lmp (ω1 [] [_,_] (.Le ν0 (.n 16777216)) (.Le (.a ν0 ν1) (.n 10000000)) hD rfl)) ?_;dsimp only [cA,nA];refine' ϰZ ?_;refine' ϰd ?_;refine' asn ?_ rfl;refine' ϰM (ks := []) rfl ?_
  refine' setN S6 ?_;dsimp only [cA,nA];refine' ϰf ?_;refine' nn ?_;refine' nn ?_;rotate_left;refine' fT ?_;refine' itn ?_;refine' ϰY ?_
  refine' ϰu ?_ rfl;refine' ϰa G9 ?_;refine' ϰs hG M1 (.c (.nm G6) .n rfl) rfl ?_;refine' ϰv ?_ ?_
  (focus (have := hsz (by assumption) (by assumption) (by assumption);exact δc hC rfl));refine' ϱW ?_;refine' isB ?_
  refine' qD' (fun hc => ?_) (fun hc => (by exfalso;exact β2 [_,_] [_] (.lt (.c ν0) (.a (.a (.n 7) ξ0) (.m 256 ξ1))) (.nlt (.c ν0) (.a (.a (.n 7) ξ0) (.m 256 ξ1))) hc (by assumption) rfl));refine' ϰY ?_;refine' ϰu ?_ rfl;refine' ϰr hG M2 ?_ rfl
  refine' ϰe ?_ rfl;refine' ϰI ?_;refine' ϰa G10 ?_;refine' ϰi ?_;refine' ϰH (fun _ _ => rfl) ?_ ?_ ?_ (fun _ _ => ?_)
  (focus (have := hsz (by assumption) (by assumption) (by assumption);decide))
  (focus (have := hsz (by assumption) (by assumption) (by assumption);exact δl this rfl))
  (focus (have := hsz (by assumption) (by assumption) (by assumption);exact δc hs2 rfl));refine' ϰe ?_ rfl;refine' ϰQ ?_;refine' ϰa G10 ?_
  refine' ϰy ?_;refine' ϰi ?_;refine' isI ?_;refine' ϰK ?_;refine' isY ?_;refine' tupK (δc hs2 rfl) ?_
  refine' ϰz (.c (.nm G2) .n rfl) ?_;refine' ϰw ?_;refine' ϰaF F.K (by exact δa Fd rfl) ?_ ?_ hk ?_ ?_
  (focus (have := hsz (by assumption) (by assumption) (by assumption);exact δj (by assumption) rfl))
  (focus (have := hsz (by assumption) (by assumption) (by assumption);exact δi (by assumption) rfl));refine' ϱz ?_
  (focus (have := hsz (by assumption) (by assumption) (by assumption);exact δc hs2 rfl));refine' ϰa G10 ?_;refine' WCmp.neY ?_;refine' isB ?_
  refine' qD' (fun hc => ?_) (fun hc => ?_);refine' ϰE ?_;refine' fT ?_;refine' asn ?_ rfl;refine' ϰQ ?_;refine' ϰa G6 ?_
  refine' ϰy ?_;refine' ϰa G9 ?_;refine' isI ?_;refine' ϰK ?_;refine' isY ?_;refine' tupK (δc hC rfl) ?_;refine' setN S6 ?_
  dsimp only [cA,nA];refine' ϰh ?_;refine' ϰt ?_ rfl;refine' ϱw ?_ rfl rfl rfl;refine' ϰa G3 ?_;refine' appK1 P0 ?_
  refine' ϰG ?_;refine' ϰe ?_ rfl;refine' ϰI ?_;refine' ϰa G10 ?_;refine' ϰi ?_
  refine' ϰH (fun _ _ => rfl) ?_ ?_ ?_ (fun _ _ => ?_);(focus (have := hsz (by assumption) (by assumption) (by assumption);decide))
  (focus (have := hsz (by assumption) (by assumption) (by assumption);exact δl this rfl))
  (focus (have := hsz (by assumption) (by assumption) (by assumption);exact δc hs2 rfl));refine' ϰe ?_ rfl;refine' ϰQ ?_;refine' ϰa G10 ?_
  refine' ϰy ?_;refine' ϰi ?_;refine' isI ?_;refine' ϰK ?_;refine' isY ?_;refine' tupK (δc hs2 rfl) ?_;refine' ϰe ?_ rfl
  refine' ϰc ?_;refine' ϰa G7 ?_;refine' ϰs hG M1 (.c (.nm G6) .n rfl) rfl ?_;refine' ϰv ?_ ?_;refine' ϱz ?_
  (focus (have := hsz (by assumption) (by assumption) (by assumption);exact δc hC rfl));refine' ϰO ?_;refine' ϰl ?_;refine' tupK (zl rfl) ?_
  refine' appK2 P0 (lmp (ω1 [] [_,_] (.Le ν0 (.n 16777216)) (.Le (.a ν0 ν1) (.n 10000000)) hD rfl)) ?_;dsimp only [cA,nA];refine' ϰZ ?_;refine' nn ?_;refine' nn ?_;refine' nn ?_;refine' nn ?_;rotate_left
  refine' tT ?_;refine' ϰh ?_;refine' ϰt ?_ rfl;refine' ϱw ?_ rfl rfl rfl;refine' ϰa G3 ?_;refine' appK1 P0 ?_
  refine' ϰG ?_;refine' ϰz (.c .ng (.c (.nm G6) (.c .i .n rfl) rfl) rfl) ?_;refine' tupK (zl rfl) ?_
  refine' appK2 P0 (lmp (ω1 [] [_,_] (.Le ν0 (.n 16777216)) (.Le (.a ν0 ν1) (.n 10000000)) hD rfl)) ?_;dsimp only [cA,nA];refine' ϰZ ?_;refine' ϰd ?_;refine' asn ?_ rfl;refine' ϰM (ks := []) rfl ?_
  refine' setN S6 ?_;dsimp only [cA,nA];refine' ϰf ?_;refine' nn ?_;refine' nn ?_;refine' nn ?_;rotate_left;refine' fT ?_;refine' itn ?_
  refine' ϰY ?_;refine' ϰu ?_ rfl;refine' ϰa G9 ?_;refine' ϰs hG M1 (.c (.nm G6) .n rfl) rfl ?_;refine' ϰv ?_ ?_
  (focus (have := hsz (by assumption) (by assumption) (by assumption);exact δc hC rfl));refine' ϱW ?_;refine' isB ?_
  refine' qD' (fun hc => ?_) (fun hc => (by exfalso;exact β2 [_,_] [_] (.lt (.c ν0) (.a (.a (.n 7) ξ0) (.m 256 ξ1))) (.nlt (.c ν0) (.a (.a (.n 7) ξ0) (.m 256 ξ1))) hc (by assumption) rfl));refine' ϰY ?_;refine' ϰu ?_ rfl;refine' ϰr hG M2 ?_ rfl
  refine' ϰe ?_ rfl;refine' ϰI ?_;refine' ϰa G10 ?_;refine' ϰi ?_;refine' ϰH (fun _ _ => rfl) ?_ ?_ ?_ (fun _ _ => ?_)
  (focus (have := hsz (by assumption) (by assumption) (by assumption);decide))
  (focus (have := hsz (by assumption) (by assumption) (by assumption);exact δl this rfl))
  (focus (have := hsz (by assumption) (by assumption) (by assumption);exact δc hs2 rfl));refine' ϰe ?_ rfl;refine' ϰQ ?_;refine' ϰa G10 ?_
  refine' ϰy ?_;refine' ϰi ?_;refine' isI ?_;refine' ϰK ?_;refine' isY ?_;refine' tupK (δc hs2 rfl) ?_
  refine' ϰz (.c (.nm G2) .n rfl) ?_;refine' ϰw ?_;refine' ϰaF F.K (by exact δa Fd rfl) ?_ ?_ hk ?_ ?_
  (focus (have := hsz (by assumption) (by assumption) (by assumption);exact δj (by assumption) rfl))
  (focus (have := hsz (by assumption) (by assumption) (by assumption);exact δi (by assumption) rfl));refine' ϱz ?_
  (focus (have := hsz (by assumption) (by assumption) (by assumption);exact δc hs2 rfl));refine' ϰa G10 ?_;refine' WCmp.neY ?_;refine' isB ?_
  refine' qD' (fun hc => ?_) (fun hc => ?_);refine' ϰE ?_;refine' fT ?_;refine' asn ?_ rfl;refine' ϰQ ?_;refine' ϰa G6 ?_
  refine' ϰy ?_;refine' ϰa G9 ?_;refine' isI ?_;refine' ϰK ?_;refine' isY ?_;refine' tupK (δc hC rfl) ?_;refine' setN S6 ?_
  dsimp only [cA,nA];refine' ϰh ?_;refine' ϰt ?_ rfl;refine' ϱw ?_ rfl rfl rfl;refine' ϰa G3 ?_;refine' appK1 P0 ?_
  refine' ϰG ?_;refine' ϰe ?_ rfl;refine' ϰI ?_;refine' ϰa G10 ?_;refine' ϰi ?_
  refine' ϰH (fun _ _ => rfl) ?_ ?_ ?_ (fun _ _ => ?_);(focus (have := hsz (by assumption) (by assumption) (by assumption);decide))
  (focus (have := hsz (by assumption) (by assumption) (by assumption);exact δl this rfl))
  (focus (have := hsz (by assumption) (by assumption) (by assumption);exact δc hs2 rfl));refine' ϰe ?_ rfl;refine' ϰQ ?_;refine' ϰa G10 ?_
  refine' ϰy ?_;refine' ϰi ?_;refine' isI ?_;refine' ϰK ?_;refine' isY ?_;refine' tupK (δc hs2 rfl) ?_;refine' ϰe ?_ rfl
  refine' ϰc ?_;refine' ϰa G7 ?_;refine' ϰs hG M1 (.c (.nm G6) .n rfl) rfl ?_;refine' ϰv ?_ ?_;refine' ϱz ?_
  (focus (have := hsz (by assumption) (by assumption) (by assumption);exact δc hC rfl));refine' ϰO ?_;refine' ϰl ?_;refine' tupK (zl rfl) ?_
  refine' appK2 P0 (lmp (ω1 [] [_,_] (.Le ν0 (.n 16777216)) (.Le (.a ν0 ν1) (.n 10000000)) hD rfl)) ?_;dsimp only [cA,nA];refine' ϰZ ?_;refine' nn ?_;refine' nn ?_;refine' nn ?_;refine' nn ?_;rotate_left
  refine' tT ?_;refine' ϰh ?_;refine' ϰt ?_ rfl;refine' ϱw ?_ rfl rfl rfl;refine' ϰa G3 ?_;refine' appK1 P0 ?_
  refine' ϰG ?_;refine' ϰz (.c .ng (.c (.nm G6) (.c .i .n rfl) rfl) rfl) ?_;refine' tupK (zl rfl) ?_
  refine' appK2 P0 (lmp (ω1 [] [_,_] (.Le ν0 (.n 16777216)) (.Le (.a ν0 ν1) (.n 10000000)) hD rfl)) ?_;dsimp only [cA,nA];refine' ϰZ ?_;refine' ϰd ?_;refine' asn ?_ rfl;refine' ϰM (ks := []) rfl ?_
  refine' setN S6 ?_;dsimp only [cA,nA];refine' ϰf ?_;refine' nn ?_;refine' nn ?_;refine' nn ?_;rotate_left;refine' ϰd ?_;refine' itn ?_
  refine' ϱb ?_;refine' ϰU (.vb (.nm G8) rfl) ?_;refine' ϰaZ (fun hc => ?_) (fun hc => ?_);refine' ϱb ?_;refine' ϰu ?_ rfl
  refine' ϰs hG M1 (.c (.nm G6) .n rfl) rfl ?_;refine' ϰv ?_ ?_;exact δc hC rfl;refine' ϰi ?_;refine' ϱW ?_;refine' isB ?_
  refine' qD (fun hc => ?_) (fun hc => ?_);refine' ϱn ?_;refine' tT ?_;refine' asg .bo S4 rfl ?_;refine' ϰf ?_
  refine' nn ?_;rotate_left;refine' fT ?_;refine' ϰf ?_;refine' nn ?_;rotate_left;refine' fT ?_;refine' ϰf ?_;refine' nn ?_;rotate_left
  all_goals first
   |(obtain ⟨n1,rfl⟩ : ∃ n1,n = n1 + 1 := ⟨n - 1,by (first | exact Nat.le_antisymm (κ1 [] [_,_] (.Le ν0 (.a ν1 (.n 1))) (.Eq (.a ν1 (.n 1)) ν0) [1,-1] (Nat.sub_add_cancel (ω2 [] [_,_] (.Le (.n 1) ν0) (.Le ν1 ν0) (.le (.n 7) (.c ν1)) hB (by assumption) rfl)) rfl) (ω1 [] [_,_] (.Le (.a ν0 (.n 1)) ν1) (.Eq (.a ν0 (.n 1)) ν1) (Nat.sub_add_cancel (ω2 [] [_,_] (.Le (.n 1) ν0) (.Le ν1 ν0) (.le (.n 7) (.c ν1)) hB (by assumption) rfl)) rfl) | exact Nat.le_antisymm (κ1 [] [_,_] (.Le ν0 (.a ν1 (.n 1))) (.Eq (.a ν1 (.n 1)) ν0) [1,-1] (Nat.sub_add_cancel (κ3 [_,_] [_,_] (.Le (.n 1) ν0) (.Le ν1 ν0) (.eq (.a (.a (.n 7) ξ0) (.m 256 ξ1)) (.n 7)) (.nlt (.c ν1) (.a (.a (.n 7) ξ0) (.m 256 ξ1))) [1,1,-1,1] hB (by assumption) (by assumption) rfl)) rfl) (ω1 [] [_,_] (.Le (.a ν0 (.n 1)) ν1) (.Eq (.a ν0 (.n 1)) ν1) (Nat.sub_add_cancel (κ3 [_,_] [_,_] (.Le (.n 1) ν0) (.Le ν1 ν0) (.eq (.a (.a (.n 7) ξ0) (.m 256 ξ1)) (.n 7)) (.nlt (.c ν1) (.a (.a (.n 7) ξ0) (.m 256 ξ1))) [1,1,-1,1] hB (by assumption) (by assumption) rfl)) rfl) | exact Nat.le_antisymm (κ1 [] [_,_] (.Le ν0 (.a ν1 (.n 1))) (.Eq (.a ν1 (.n 1)) ν0) [1,-1] (Nat.sub_add_cancel (κ3 [_,_] [_,_] (.Le (.n 1) ν0) (.Le ν1 ν0) (.nlt (.c ν1) (.a (.a (.n 7) ξ0) (.m 256 ξ1))) (.eq (.a (.a (.n 7) ξ0) (.m 256 ξ1)) (.n 7)) [1,1,1,-1] hB (by assumption) (by assumption) rfl)) rfl) (ω1 [] [_,_] (.Le (.a ν0 (.n 1)) ν1) (.Eq (.a ν0 (.n 1)) ν1) (Nat.sub_add_cancel (κ3 [_,_] [_,_] (.Le (.n 1) ν0) (.Le ν1 ν0) (.nlt (.c ν1) (.a (.a (.n 7) ξ0) (.m 256 ξ1))) (.eq (.a (.a (.n 7) ξ0) (.m 256 ξ1)) (.n 7)) [1,1,1,-1] hB (by assumption) (by assumption) rfl)) rfl) | exact Nat.le_antisymm (κ1 [] [_,_] (.Le ν0 (.a ν1 (.n 1))) (.Eq (.a ν1 (.n 1)) ν0) [1,-1] (Nat.sub_add_cancel (κ4 [_,_] [_,_] (.Le (.n 1) ν0) (.Le ν1 ν0) (.nlt (.c ν1) (.a (.a (.n 7) ξ0) (.m 256 ξ1))) (.le (.n 0) ξ1) (.le (.n 0) ξ0) [1,1,1,256,1] hB (by assumption) (by assumption) (by assumption) rfl)) rfl) (ω1 [] [_,_] (.Le (.a ν0 (.n 1)) ν1) (.Eq (.a ν0 (.n 1)) ν1) (Nat.sub_add_cancel (κ4 [_,_] [_,_] (.Le (.n 1) ν0) (.Le ν1 ν0) (.nlt (.c ν1) (.a (.a (.n 7) ξ0) (.m 256 ξ1))) (.le (.n 0) ξ1) (.le (.n 0) ξ0) [1,1,1,256,1] hB (by assumption) (by assumption) (by assumption) rfl)) rfl) | exact Nat.le_antisymm (κ1 [] [_,_] (.Le ν0 (.a ν1 (.n 1))) (.Eq (.a ν1 (.n 1)) ν0) [1,-1] (Nat.sub_add_cancel (ω2 [] [_,_] (.Le (.n 1) ν0) (.lt (.n 0) (.c ν1)) (.Le ν1 ν0) hc hB rfl)) rfl) (ω1 [] [_,_] (.Le (.a ν0 (.n 1)) ν1) (.Eq (.a ν0 (.n 1)) ν1) (Nat.sub_add_cancel (ω2 [] [_,_] (.Le (.n 1) ν0) (.lt (.n 0) (.c ν1)) (.Le ν1 ν0) hc hB rfl)) rfl))⟩
     simp only [pcs,if_pos (show 7 ≤ (p.length : Int) by assumption)] at hA
     first
      | rw [pc1 (by assumption) (by assumption)] at hA
      | rw [pc2 (by first | exact nb2 (by assumption) | exact nb1 (by assumption) | exact nb1 (by dsimp only [pSz];omega)) (by assumption) (by assumption)] at hA
      | rw [pc3 (by first | exact nb2 (by assumption) | exact nb1 (by assumption) | exact nb1 (by dsimp only [pSz];omega)) (by dsimp only [pSz,pPc];omega) (by first | exact Or.inl (by assumption) | exact Or.inr (by assumption))] at hA
      | rw [pc4 (by first | exact nb2 (by assumption) | exact nb1 (by assumption) | exact nb1 (by dsimp only [pSz];omega)) (by dsimp only [pSz,pPc];omega) (nor2 (by assumption) (by assumption))] at hA
     refine ϱC (ι := PI) ⟨n1,_⟩ ⟨hA,?_,?_,?_⟩ (Nat.lt_succ_self _) ?_
     ·first | (simp only [List.length_nil];exact Nat.zero_le _) | (simp only [pSz];rw [cut_len3 (by (first | exact κ1 [_,_] [] (.le (.n 0) (.a (.a (.n 7) ξ0) (.m 256 ξ1))) (.eq (.a (.a (.n 7) ξ0) (.m 256 ξ1)) (.n 7)) [1,-1] (by assumption) rfl | exact κ2 [_,_] [] (.le (.n 0) (.a (.a (.n 7) ξ0) (.m 256 ξ1))) (.le (.n 0) ξ1) (.le (.n 0) ξ0) [1,256,1] (by assumption) (by assumption) rfl))];omega)
     ·first | (simp only [List.length_nil];exact Nat.le_of_ble_eq_true rfl) | (simp only [pSz];rw [cut_len3 (by (first | exact κ1 [_,_] [] (.le (.n 0) (.a (.a (.n 7) ξ0) (.m 256 ξ1))) (.eq (.a (.a (.n 7) ξ0) (.m 256 ξ1)) (.n 7)) [1,-1] (by assumption) rfl | exact κ2 [_,_] [] (.le (.n 0) (.a (.a (.n 7) ξ0) (.m 256 ξ1))) (.le (.n 0) ξ1) (.le (.n 0) ξ0) [1,256,1] (by assumption) (by assumption) rfl))];exact ω2 [] [_,_] (.Le ν0 (.n 31)) (.Le ν1 (.n 31)) (.Le ν0 ν1) hC (Nat.sub_le _ _) rfl)
     ·first | (dsimp only;exact ω1 [] [_,_] (.Le (.a ν0 ν1) (.n 10000000)) (.Le (.a ν0 (.a ν1 (.n 1))) (.n 10000000)) hD rfl) | (simp only [List.length_append,List.length_cons,List.length_nil];exact ω1 [] [_,_] (.Le (.a (.a ν0 (.a (.n 0) (.n 1))) ν1) (.n 10000000)) (.Le (.a ν0 (.a ν1 (.n 1))) (.n 10000000)) hD rfl)
     ·(try simp only [List.map_append,List.map_cons,List.map_nil])
      exact ⟨LM 1536 _,.refl _⟩)
   |(rw [ϱS (by dsimp only;(first | exact ω1 [] [_] (.nle (.n 7) (.c ν0)) (.nle (.n 7) (.c ν0)) (by assumption) rfl | exact ω1 [] [_] (.nle (.n 7) (.c ν0)) (.nlt (.n 0) (.c ν0)) hc rfl))] at hA
     subst hA
     refine ϱK () hi ?_
     rw [hs1]
     first
      | rw [if_pos ⟨by assumption,by assumption⟩]
      | rw [if_neg (by first | exact nb3 (by assumption) | exact nb4 (by assumption))]
     exact ⟨LM 448 _,.refl _⟩)
   | trace_state
 ·intro _ _
  refine' nx ?_;refine' ϰP ?_;refine' ϰG ?_;refine' ϰz (.c (.nm G3) (.c (.nm G4) .n rfl) rfl) ?_;refine' tupK (zl rfl) ?_
  refine' ϰm ?_;refine' ϰx ?_;rotate_left
  refine ⟨_,?_,h l⟩
  exact ⟨LocLe.refl _,.cons P0 (.refl _)⟩
end
structure SInv (s : SS) (i : Nat) : Prop where
 b1 : ∀ e ∈ s.behind,e.2.1.length ≤ 31
 b2 : s.behind.length ≤ i
 r : s.recs.length ≤ i
theorem storyN_inv {f : List Ev} (hf : ∀ e ∈ f,e.2.1.length ≤ 31) : ∀ i,SInv (storyN f i) i
 | 0 => ⟨(fun e h => nomatch h),Nat.le_refl _,Nat.le_refl _⟩
 | i + 1 => by
  obtain ⟨h1,h2,h3⟩ := storyN_inv hf i
  have he : (evAt f i).2.1.length ≤ 31 := by
   unfold evAt
   split
   ·rw [List.getD_eq_getElem?_getD]
    by_cases q : ((f.length : Int) - 1 + (i : Int) * (-1)).toNat < f.length
    ·rw [List.getElem?_eq_getElem q];exact hf _ (List.getElem_mem q)
    ·rw [List.getElem?_eq_none (by exact Nat.not_lt.mp q)];simp [evD]
   ·simp
  simp only [storyN]
  unfold stStep
  split
  ·exact ⟨(fun e hm => (List.mem_cons.mp hm).elim (fun q => q ▸ he) (h1 e)),by simp only [List.length_cons];exact ω1 [] [_,_] (.Le (.a ν0 (.n 1)) (.a ν1 (.n 1))) (.Le ν0 ν1) h2 rfl,by dsimp only;exact δG h3⟩
  ·have h2r : (st2 (evAt f i).2.1 (storyN f i)).recs.length ≤ i + 1 ∧ (storyN f i).recs.length ≤ i := by
    refine ⟨?_,h3⟩
    unfold st2
    dsimp only
    split
    ·simp only [List.length_cons];exact ω1 [] [_,_] (.Le (.a ν0 (.n 1)) (.a ν1 (.n 1))) (.Le ν0 ν1) h3 rfl
    ·split
     ·dsimp only;exact δG h3
     ·split
      ·dsimp only;exact δG h3
      ·split <;> (dsimp only;exact δG h3)
   have hst2 : (evAt f i).1 ≠ 2 ∨ True := .inr trivial
   by_cases k2 : (evAt f i).1 = 2
   ·rw [if_pos k2]
    unfold stK stO
    rw [k2]
    simp only [show ¬ (2 : Int) = 1 by decide,if_false,ne_eq,not_true,false_and]
    exact ⟨(fun e h => nomatch h),Nat.zero_le _,h2r.1⟩
   ·rw [if_neg k2]
    unfold stK stO
    by_cases k1 : (evAt f i).1 = 1
    ·rw [if_pos k1];exact ⟨(fun e h => nomatch h),Nat.zero_le _,by simp only [List.length_cons];exact ω1 [] [_,_] (.Le (.a ν0 (.n 1)) (.a ν1 (.n 1))) (.Le ν0 ν1) h2r.2 rfl⟩
    ·rw [if_neg k1]
     split
     ·split
      ·exact ⟨(fun e h => nomatch h),Nat.zero_le _,by dsimp only;exact δG h2r.2⟩
      ·exact ⟨(fun e h => nomatch h),Nat.zero_le _,by dsimp only;exact δG h2r.2⟩
     ·exact ⟨(fun e h => nomatch h),Nat.zero_le _,by dsimp only;exact δG h2r.2⟩
theorem flat_len {b : List Ev} (h : ∀ e ∈ b,e.2.1.length ≤ 31) : ∀ u,(flat b u).length ≤ 31 * u := by
 induction b with
 | nil => intro u;simp [flat]
 | cons e b ih =>
  intro u
  cases u with
  | zero => simp [flat]
  | succ u =>
   have h1 := ih (fun e he => h e (.tail _ he)) u
   have h2 := h e (.head _)
   have e1 : flat (e :: b) (u + 1) = e.2.1 ++ flat b u := by simp [flat]
   rw [e1,List.length_append];exact ω2 [] [_,_,_] (.Le (.a ν0 ν1) (.m 31 (.a ν2 (.n 1)))) (.Le ν0 (.n 31)) (.Le ν1 (.m 31 ν2)) h2 h1 rfl
theorem flat_succ {b : List Ev} {u : Nat} (h : u < b.length) : flat b (u + 1) = flat b u ++ (b.getD u evD).2.1 := by
 unfold flat
 rw [List.take_add_one,List.getElem?_eq_getElem h,List.getD_eq_getElem?_getD,List.getElem?_eq_getElem h]
 simp only [Option.toList,List.map_append,List.map_cons,List.map_nil,List.flatten_append,List.flatten_cons,List.flatten_nil,List.append_nil,Option.getD_some]
theorem orph_succ {b : List Ev} {u : Nat} (h : u < b.length) : orph b (u + 1) = orph b u + ((b[u]).2.1.length : Int) := by
 unfold orph
 rw [List.take_add_one,List.getElem?_eq_getElem h]
 simp only [Option.toList,List.map_append,List.map_cons,List.map_nil,List.sum_append,List.sum_cons,List.sum_nil,Int.add_zero]
theorem lead_le (b : List Ev) : leadN b ≤ b.length := by unfold leadN;exact (List.takeWhile_prefix _).length_le
theorem lead_go : ∀ {b : List Ev} {u : Nat},u ≤ leadN b → u < b.length → (b.getD u evD).1 = 3 → u + 1 ≤ leadN b
 | [],u,_,h,_ => by simp at h
 | e :: b,0,_,_,h => by
  simp only [List.getD_cons_zero] at h
  simp [leadN,List.takeWhile_cons,h]
 | e :: b,u + 1,h1,h2,h3 => by
  simp only [List.getD_cons_succ] at h3
  have he : e.1 = 3 := by
   by_cases q : e.1 = 3
   ·exact q
   ·simp [leadN,List.takeWhile_cons,q] at h1
  have hl : leadN (e :: b) = leadN b + 1 := by simp [leadN,List.takeWhile_cons,he]
  rw [hl] at h1 ⊢
  have := lead_go (b := b) (u := u) (by exact ω1 [] [_,_] (.Le ν0 ν1) (.Le (.a ν0 (.n 1)) (.a ν1 (.n 1))) h1 rfl) (by simpa using h2) h3
  exact ω1 [] [_,_] (.Le (.a (.a ν0 (.n 1)) (.n 1)) (.a ν1 (.n 1))) (.Le (.a ν0 (.n 1)) ν1) this rfl
theorem lead_stop : ∀ {b : List Ev} {u : Nat},u ≤ leadN b → ¬ (u < b.length ∧ (b.getD u evD).1 = 3) → u = leadN b
 | [],u,h,_ => by simp [leadN] at h;rw [h];rfl
 | e :: b,0,h,hn => by
  have : e.1 ≠ 3 := fun q => hn ⟨by simp,by simpa using q⟩
  simp [leadN,List.takeWhile_cons,this]
 | e :: b,u + 1,h,hn => by
  have he : e.1 = 3 := by
   by_cases q : e.1 = 3
   ·exact q
   ·simp [leadN,List.takeWhile_cons,q] at h
  have hl : leadN (e :: b) = leadN b + 1 := by simp [leadN,List.takeWhile_cons,he]
  rw [hl] at h ⊢
  have := lead_stop (b := b) (u := u) (by exact ω1 [] [_,_] (.Le ν0 ν1) (.Le (.a ν0 (.n 1)) (.a ν1 (.n 1))) h rfl) (fun q => hn ⟨by simpa using q.1,by simpa using q.2⟩)
  exact η1 [] [_,_] (.Eq (.a ν0 (.n 1)) (.a ν1 (.n 1))) (.Eq ν0 ν1) [1,-1] [1,1] this rfl
theorem lead_stop2 {b : List Ev} {u : Nat} (h : u ≤ leadN b) (q : ¬ (u : Int) < (b.length : Int)) : u = leadN b := lead_stop h (fun x => q (by have := x.1;exact ω1 [] [_,_] (.lt (.c ν0) (.c ν1)) (.Lt ν0 ν1) this rfl))
theorem lead_stop3 {b : List Ev} {u : Nat} (h : u ≤ leadN b) (q : ¬ (b.getD ((u : Int)).toNat evD).1 = 3) : u = leadN b := lead_stop h (fun x => q (by simpa using x.2))
theorem lead_go2 {b : List Ev} {u : Nat} (h : u ≤ leadN b) (q : (u : Int) < (b.length : Int)) (z : (b.getD ((u : Int)).toNat evD).1 = 3) : u + 1 ≤ leadN b := lead_go h (by exact ω1 [] [_,_] (.Lt ν0 ν1) (.lt (.c ν0) (.c ν1)) q rfl) (by simpa using z)
theorem getD_ev {b : List Ev} (h : ∀ e ∈ b,e.2.1.length ≤ 31) (i : Nat) : (b.getD i evD).2.1.length ≤ 31 := by
 rw [List.getD_eq_getElem?_getD]
 by_cases q : i < b.length
 ·rw [List.getElem?_eq_getElem q];exact h _ (List.getElem_mem q)
 ·rw [List.getElem?_eq_none (by exact Nat.not_lt.mp q)];simp [evD]
theorem cut_map {α β : Type} (f : α → β) (l : List α) (a b : Option Int) : cut (l.map f) a b = (cut l a b).map f := by
 unfold cut;rw [List.length_map,List.map_take,List.map_drop]
section
variable {c : Cx} {σ : St}
theorem ϰW {α : Type} {f : α → AV} {y py lo hi p pos} {l : Addr} {Φ : AV → St → Prop} (g : GetL y (.ref l) σ.loc) (h : WO c lo σ fun x σ2 => WO c hi σ2 fun y σ3 => ∃ (ns : List α) (rest : List (Addr × AO)),Pick (l,.list (ns.map f)) σ3.hp rest ∧ ns.length ≤ 16777216 ∧ ∀ D,Φ (.ref D) ⟨σ3.loc,(D,.list ((cut ns x y).map f)) :: σ3.hp⟩) :
  WE c (.Subscript (.Name y py) (.Slice lo hi none p) pos) σ Φ :=
 WE.sliceL g (W.mono h fun x σ2 h2 => W.mono h2 fun y σ3 h3 => by
  obtain ⟨ns,rest,pk,hz,h4⟩ := h3
  exact ⟨ns.map f,rest,pk,by rw [List.length_map];exact hz,fun D => by rw [cut_map];exact h4 D⟩)
theorem ϰad {α : Type} {f : α → AV} {l : Addr} {ns : List α} {hp rest : List (Addr × AO)} {P : List α → Prop} (pk : Pick (l,.list (ns.map f)) hp rest) (hz : ns.length ≤ 16777216) (h : P ns) :
  ∃ (ns : List α) (rest : List (Addr × AO)),Pick (l,.list (ns.map f)) hp rest ∧ ns.length ≤ 16777216 ∧ P ns := ⟨ns,rest,pk,hz,h⟩
end
section
variable {k x l w br en : Int} {y : Y} {r : List (Y × Int)} {oe : Bool} {b : List Ev}
noncomputable abbrev b1F (b : List Ev) : List Ev := cut b (some ((leadN b : Int) + 1)) none
theorem b1F_drop (b : List Ev) : b1F b = b.drop (leadN b + 1) := by
 unfold b1F;rw [ϱs _ (by exact κ0 [] [_] (.le (.n 0) (.a (.c ν0) (.n 1))) [1] rfl)];congr 1
theorem sB (h : k = 3 ∨ k = 4) : stStep (k,y,x) ⟨r,l,w,br,oe,b,en⟩ = ⟨r,l,w,br,oe,(k,y,x) :: b,en⟩ := by unfold stStep;rw [if_pos h]
theorem sA1 (hk : k = 2) (h : (leadN b : Int) < (b.length : Int)) : stStep (k,y,x) ⟨r,l,w,br,oe,b,en⟩ = ⟨(y ++ flat b (leadN b) ++ (b.getD ((leadN b : Int)).toNat evD).2.1,(b.getD ((leadN b : Int)).toNat evD).2.2) :: r,l + orph (b1F b) (b1F b).length,w + ((b1F b).length : Int),br + ((b1F b).length : Int),oe,[],k⟩ := by
 subst hk
 have h' : leadN b < b.length := by exact ω1 [] [_,_] (.Lt ν0 ν1) (.lt (.c ν0) (.c ν1)) h rfl
 rw [b1F_drop]
 simp [stStep,st2,stO,stK,h']
theorem sA2 (hk : k = 2) (h : ¬ (leadN b : Int) < (b.length : Int)) (he : en = 9999) : stStep (k,y,x) ⟨r,l,w,br,oe,b,en⟩ = ⟨r,l + orph (b1F b) (b1F b).length,w + ((b1F b).length : Int),br + ((b1F b).length : Int),true,[],k⟩ := by
 subst hk he
 have h' : ¬ leadN b < b.length := by exact ω1 [] [_,_] (.NLt ν0 ν1) (.nlt (.c ν0) (.c ν1)) h rfl
 rw [b1F_drop]
 simp [stStep,st2,stO,stK,h']
theorem sA3 (hk : k = 2) (h : ¬ (leadN b : Int) < (b.length : Int)) (h9 : ¬ en = 9999) (he : en = 1 ∨ en = 2) : stStep (k,y,x) ⟨r,l,w,br,oe,b,en⟩ = ⟨r,l + ((y ++ flat b (leadN b)).length : Int) + orph (b1F b) (b1F b).length,w + mnF 1 ((y ++ flat b (leadN b)).length : Int) + ((b1F b).length : Int),br + 1 + ((b1F b).length : Int),oe,[],k⟩ := by
 subst hk
 have h' : ¬ leadN b < b.length := by exact ω1 [] [_,_] (.NLt ν0 ν1) (.nlt (.c ν0) (.c ν1)) h rfl
 rw [b1F_drop]
 simp only [stStep,st2,stO,stK,h',h9,he,if_true,if_false,ne_eq,not_true,false_and,show ¬ ((2 : Int) = 3 ∨ (2 : Int) = 4) by decide,show ¬ (2 : Int) = 1 by decide]
theorem sA4 (hk : k = 2) (h : ¬ (leadN b : Int) < (b.length : Int)) (h9 : ¬ en = 9999) (h12 : ¬ (en = 1 ∨ en = 2)) (he : en < 0) : stStep (k,y,x) ⟨r,l,w,br,oe,b,en⟩ = ⟨r,l + ((y ++ flat b (leadN b)).length : Int) + orph (b1F b) (b1F b).length,w + 1 + ((b1F b).length : Int),br + ((b1F b).length : Int),oe,[],k⟩ := by
 subst hk
 have h' : ¬ leadN b < b.length := by exact ω1 [] [_,_] (.NLt ν0 ν1) (.nlt (.c ν0) (.c ν1)) h rfl
 rw [b1F_drop]
 simp only [stStep,st2,stO,stK,h',h9,h12,he,if_true,if_false,ne_eq,not_true,false_and,show ¬ ((2 : Int) = 3 ∨ (2 : Int) = 4) by decide,show ¬ (2 : Int) = 1 by decide]
theorem sA5 (hk : k = 2) (h : ¬ (leadN b : Int) < (b.length : Int)) (h9 : ¬ en = 9999) (h12 : ¬ (en = 1 ∨ en = 2)) (he : ¬ en < 0) : stStep (k,y,x) ⟨r,l,w,br,oe,b,en⟩ = ⟨r,l + ((y ++ flat b (leadN b)).length : Int) + orph (b1F b) (b1F b).length,w + ((b1F b).length : Int),br + ((b1F b).length : Int),oe,[],k⟩ := by
 subst hk
 have h' : ¬ leadN b < b.length := by exact ω1 [] [_,_] (.NLt ν0 ν1) (.nlt (.c ν0) (.c ν1)) h rfl
 rw [b1F_drop]
 simp only [stStep,st2,stO,stK,h',h9,h12,he,if_true,if_false,ne_eq,not_true,false_and,show ¬ ((2 : Int) = 3 ∨ (2 : Int) = 4) by decide,show ¬ (2 : Int) = 1 by decide]
theorem s1 (hk : k = 1) : stStep (k,y,x) ⟨r,l,w,br,oe,b,en⟩ = ⟨(y,x) :: r,l + orph b b.length,w + (b.length : Int),br + (b.length : Int),oe,[],k⟩ := by
 subst hk;simp [stStep,stO,stK]
theorem sM3 (hk : k = -3) : stStep (k,y,x) ⟨r,l,w,br,oe,b,en⟩ = ⟨r,l + orph b b.length,w + (b.length : Int),br + (b.length : Int),oe,[],k⟩ := by
 subst hk;simp [stStep,stO,stK]
theorem sM2 (hk : k = -2) : stStep (k,y,x) ⟨r,l,w,br,oe,b,en⟩ = ⟨r,l + orph b b.length + (y.length : Int),w + (b.length : Int),br + (b.length : Int) + 1,oe,[],k⟩ := by
 subst hk;simp [stStep,stO,stK]
theorem sO (h1 : k ≠ 1) (h2 : k ≠ 2) (h3 : k ≠ 3) (h4 : k ≠ 4) (hm3 : k ≠ -3) (hm2 : k ≠ -2) : stStep (k,y,x) ⟨r,l,w,br,oe,b,en⟩ = ⟨r,l + orph b b.length + (y.length : Int),w + (b.length : Int) + 1,br + (b.length : Int) + 1,oe,[],k⟩ := by
 simp [stStep,stO,stK,h1,h2,h3,h4,hm3,hm2]
end
theorem ϰaG {α : Type} {l : List α} {a b : Option Int} : ∀ e ∈ cut l a b,e ∈ l := fun e h => List.mem_of_mem_drop (List.mem_of_mem_take h)
set_option maxHeartbeats 4000000
section
variable {c : Cx} {σ : St} {dp un : Nat} {Φ : AV → St → Prop}
noncomputable abbrev GL : List (Str × AV) := [("range",.raw (.type "range")),("len",.raw (.builtin "len")),("min",.raw (.builtin "min"))]
theorem ϱH {o1 o2 o6 o8 o9 o10 o11 o12 o13 o14 : Option AV} {a b d : Int} {ba : Addr} {bb : List Ev} {hp rest : List (Addr × AO)} {p1 p2 p3 p4 p5 p6 p7 p8 p9 q1 q2 q3 r1 r2 r3 pos : Pos} {k1 k2 k3 : Nat} {Φ : AFl → St → Prop} (hG : c.glob = GL) (pk : Pick (ba,.list (bb.map evA)) hp rest) (hb : ∀ e ∈ bb,e.2.1.length ≤ 31)
  (h : Φ .next ⟨[("found",o1),("records",o2),("lost",some (.int (a + orph bb bb.length))),("whys",some (.int (b + bb.length))),("breaks",some (.int (d + bb.length))),("open_end",o6),("behind",some (.ref ba)),("ender",o8),("at",o9),("kind",o10),("octets",o11),("end",o12),("upto",o13),("orphan",none)],hp⟩) :
  WS c (.For (.Name "orphan" p1) (.Name "behind" p2) [.AugAssign (.Name "lost" p3) .Add (.Call (.Name "len" p4) [.Subscript (.Name "orphan" p5) (.Constant (.int 1) k1 p6) p7] [] p8) p9,.AugAssign (.Name "whys" q1) .Add (.Constant (.int 1) k2 q2) q3,.AugAssign (.Name "breaks" r1) .Add (.Constant (.int 1) k3 r2) r3] [] pos)
   ⟨[("found",o1),("records",o2),("lost",some (.int a)),("whys",some (.int b)),("breaks",some (.int d)),("open_end",o6),("behind",some (.ref ba)),("ender",o8),("at",o9),("kind",o10),("octets",o11),("end",o12),("upto",o13),("orphan",o14)],hp⟩ Φ := by
 refine' ϱP ?_ (by intro _;rfl);refine' ϰa G6 ?_;rotate_left
 refine ForOK.list (ι := Unit) (as := bb.map evA) (rest := rest) (P := fun _ _ => True) (J := fun i _ => ⟨[("found",o1),("records",o2),("lost",some (.int (a + orph bb i))),("whys",some (.int (b + (i : Int)))),("breaks",some (.int (d + (i : Int)))),("open_end",o6),("behind",some (.ref ba)),("ender",o8),("at",o9),("kind",o10),("octets",o11),("end",o12),("upto",o13),("orphan",none)],hp⟩) () pk trivial ⟨?_,.refl _⟩ (fun i d _ => ⟨rest,pk⟩) ?_ ?_
 ·have e0 : orph bb 0 = 0 := rfl
  rw [e0,Int.add_zero]
  simp only [Int.natCast_zero,Int.add_zero]
  exact .keep _ (.keep _ (.keep _ (.keep _ (.keep _ (.keep _ (.keep _ (.keep _ (.keep _ (.keep _ (.keep _ (.keep _ (.keep _ (.drop _ _ .nil)))))))))))))
 ·intro i _ hi _
  have hi' : i < bb.length := by simpa using hi
  have hb' := hb _ (List.getElem_mem hi')
  rw [List.getElem_map]
  refine' ϱh S13 ?_;dsimp only [cA,nA];refine' ϰh ?_;refine' ϱf G2 ?_;refine' ϰr hG M1 ?_ rfl;refine' ϰe ?_ rfl
  refine' ϰI ?_;refine' ϰa G13 ?_;refine' ϰi ?_;refine' ϱU (fun _ _ => rfl) ?_ ?_ rfl ?_;decide;decide;refine' ϰl ?_
  refine' ϰv ?_ ?_;omega;refine' ϰL ?_;refine' setN S2 ?_;dsimp only [cA,nA];refine' ϰh ?_;refine' ϱf G3 ?_;refine' ϰi ?_
  refine' ϰL ?_;refine' setN S3 ?_;dsimp only [cA,nA];refine' ϰh ?_;refine' ϱf G4 ?_;refine' ϰi ?_;refine' ϰL ?_
  refine' setN S4 ?_;dsimp only [cA,nA];refine' ϰf ?_;rotate_left
  refine ϱK () trivial ?_
  rw [orph_succ hi',← Int.add_assoc]
  have e1 : ((i + 1 : Nat) : Int) = (i : Int) + 1 := by simp
  rw [e1,← Int.add_assoc,← Int.add_assoc]
  exact ⟨LM 8192 _,.refl _⟩
 ·intro _ _
  simp only [List.length_map]
  exact h
theorem scan_loop {o1 o2 o3 o4 o5 o6 o8 o9 o10 o12 o14 : Option AV} {y : Y} {ba : Addr} {bb : List Ev} {hp rest : List (Addr × AO)} {w1 w2 w3 w4 w5 w6 w7 w8 w9 w10 w11 w12 w13 w14 w15 w16 w17 w18 w19 w20 w21 w22 w23 w24 w25 w26 : Pos} {kk0 kk1 kk2 kk3 : Nat} {Φ : AFl → St → Prop} (hG : c.glob = GL) (pk : Pick (ba,.list (bb.map evA)) hp rest) (hb : ∀ e ∈ bb,e.2.1.length ≤ 31) (hy : y.length ≤ 31) (hbz : bb.length ≤ 10000)
  (h : Φ .next ⟨[("found",o1),("records",o2),("lost",o3),("whys",o4),("breaks",o5),("open_end",o6),("behind",some (.ref ba)),("ender",o8),("at",o9),("kind",o10),("octets",some (.bytes (y ++ flat bb (leadN bb)))),("end",o12),("upto",some (.int (leadN bb))),("orphan",o14)],hp⟩) :
  WS c (.While (.BoolOp .And [.Compare (.Name "upto" w1) [.Lt] [.Call (.Name "len" w2) [(.Name "behind" w3)] [] w4] w5,.Compare (.Subscript (.Subscript (.Name "behind" w6) (.Name "upto" w7) w8) (.Constant (.int 0) kk0 w9) w10) [.Eq] [(.Constant (.int 3) kk1 w11)] w12] w13) [.Assign [(.Name "octets" w14)] (.BinOp (.Name "octets" w15) .Add (.Subscript (.Subscript (.Name "behind" w16) (.Name "upto" w17) w18) (.Constant (.int 1) kk2 w19) w20) w21) w22,.AugAssign (.Name "upto" w23) .Add (.Constant (.int 1) kk3 w24) w25] [] w26)
   ⟨[("found",o1),("records",o2),("lost",o3),("whys",o4),("breaks",o5),("open_end",o6),("behind",some (.ref ba)),("ender",o8),("at",o9),("kind",o10),("octets",some (.bytes y)),("end",o12),("upto",some (.int 0)),("orphan",o14)],hp⟩ Φ := by
 have hfl := fun u => flat_len hb u
 refine ϰab (ι := Nat) (P := fun u => u ≤ leadN bb) (μ := fun u => bb.length + 1 - u) (I := fun u => ⟨[("found",o1),("records",o2),("lost",o3),("whys",o4),("breaks",o5),("open_end",o6),("behind",some (.ref ba)),("ender",o8),("at",o9),("kind",o10),("octets",some (.bytes (y ++ flat bb u))),("end",o12),("upto",some (.int (u : Int))),("orphan",o14)],hp⟩) 0 (Nat.zero_le _) ⟨?_,.refl _⟩ ?_
 ·simp only [flat,List.take_zero,List.map_nil,List.flatten_nil,List.append_nil]
  exact LocLe.refl _
 ·intro u hu
  have hll := lead_le bb
  have hfu := hfl u
  have hgu := getD_ev hb ((u : Int)).toNat
  show WT c _ ⟨[("found",o1),("records",o2),("lost",o3),("whys",o4),("breaks",o5),("open_end",o6),("behind",some (.ref ba)),("ender",o8),("at",o9),("kind",o10),("octets",some (.bytes (y ++ flat bb u))),("end",o12),("upto",some (.int (u : Int))),("orphan",o14)],hp⟩ _
  refine' ϱb ?_;refine' ϰu ?_ rfl;refine' ϰa G12 ?_;refine' ϰs hG M1 (.c (.nm G6) .n rfl) rfl ?_
  refine' ϰT ((by assumption)) ?_ ?_;exact δc hbz rfl;refine' ϱV ?_;refine' isB ?_;refine' qD (fun hc => ?_) (fun hc => ?_);refine' ϱb ?_
  refine' ϰu ?_ rfl;refine' ϰI ?_;refine' ϰI ?_;refine' ϰa G6 ?_;refine' ϰa G12 ?_
  refine' ϱB (f := evA) (d := evD) ((by assumption)) (fun _ _ => rfl) ?_ ?_ ?_ ?_;exact δz _;exact ω1 [] [_,_] (.lt (.c ν0) (.c ν1)) (.lt (.c ν0) (.c ν1)) hc rfl;exact δc hbz rfl;refine' ϰi ?_
  refine' ϱU (fun _ _ => rfl) ?_ ?_ rfl ?_;decide;decide;refine' ϰi ?_;refine' ϰaj ?_;refine' isB ?_
  refine' qD (fun hc => ?_) (fun hc => ?_);refine' ϱn ?_;refine' tT ?_;refine' asn ?_ rfl;refine' ϰc ?_;refine' ϰa G10 ?_
  refine' ϰI ?_;refine' ϰI ?_;refine' ϰa G6 ?_;refine' ϰa G12 ?_
  refine' ϱB (f := evA) (d := evD) ((by assumption)) (fun _ _ => rfl) ?_ ?_ ?_ ?_;exact δz _;exact ω1 [] [_,_] (.lt (.c ν0) (.c ν1)) (.lt (.c ν0) (.c ν1)) (by assumption) rfl;exact δc hbz rfl;refine' ϰi ?_
  refine' ϱU (fun _ _ => rfl) ?_ ?_ rfl ?_;decide;decide;refine' ϰN ?_ ?_;(focus (simp only [List.length_append];exact κ6 [] [_,_,_,_,_,_] (.Le (.a (.a ν0 ν1) ν2) (.n 16777216)) (.Le ν2 (.n 31)) (.Le ν1 (.m 31 ν3)) (.Le ν4 ν5) (.Le ν3 ν4) (.Le ν5 (.n 10000)) (.Le ν0 (.n 31)) [1,1,1,31,31,31,1] hgu hfu hll hu hbz hy rfl))
  refine' setN S10 ?_;dsimp only [cA,nA];refine' ϰh ?_;refine' ϱf G12 ?_;refine' ϰi ?_;refine' ϰL ?_;refine' setN S12 ?_;dsimp only [cA,nA]
  refine' ϰf ?_;rotate_left;refine' fT ?_;rotate_left;refine' fT ?_;rotate_left
  all_goals first
   |(refine ϱC (u + 1) ?_ ?_ ?_
     ·exact lead_go2 hu (by assumption) (by assumption)
     ·exact κ2 [] [_,_,_,_] (.Lt ν0 ν1) (.Eq (.a ν0 (.a ν2 (.n 1))) (.a ν3 (.n 1))) (.Eq (.a ν1 ν2) (.a ν3 (.n 1))) [1,1,-1] (Nat.sub_add_cancel (ω2 [] [_,_,_] (.Le (.a ν0 (.n 1)) (.a ν1 (.n 1))) (.Le ν2 ν1) (.Le ν0 ν2) hll hu rfl)) (Nat.sub_add_cancel (ω2 [] [_,_,_] (.Le ν0 (.a ν1 (.n 1))) (.Le ν2 ν1) (.Le ν0 ν2) hll hu rfl)) rfl
     ·rw [flat_succ (show u < bb.length by exact ω1 [] [_,_] (.Lt ν0 ν1) (.lt (.c ν0) (.c ν1)) (by assumption) rfl),← List.append_assoc]
      have e1 : ((u + 1 : Nat) : Int) = (u : Int) + 1 := by simp
      rw [e1]
      exact ⟨.keep _ (.keep _ (.keep _ (.keep _ (.keep _ (.keep _ (.keep _ (.keep _ (.keep _ (.keep _ (.keep _ (.keep _ (.keep _ (.keep _ .nil))))))))))))),.refl _⟩)
   |(have e : u = leadN bb := (by first | exact lead_stop2 hu (by assumption) | exact lead_stop3 hu (by assumption))
     subst e
     exact h)
   | trace_state
theorem story_ok {f : List Ev} {l : Addr} {rest : List (Addr × AO)} (hK : c.K = mk0.heap_1 c.w.params) (hr : dp + 2 < 900) (hf : ∀ e ∈ f,e.2.1.length ≤ 31) (hz : f.length ≤ 3000) (pk : Pick (l,.list (f.map evA)) σ.hp rest) (h : ∀ ra,Φ (.tup [.ref ra,.int (storyF f).lost,.int (storyF f).whys,.int (storyF f).breaks,.bool (storyF f).oe]) ⟨σ.loc,(ra,.list ((storyF f).recs.map recA)) :: (l,.list (f.map evA)) :: rest⟩) : Enters c dp un 270 [.ref l] σ Φ := by
 refine Enters.post ?_
 refine Enters.of (args := ["found"]) (more := ["records","lost","whys","breaks","open_end","behind","ender","at","kind","octets","end","upto","orphan"]) (G := [("range",.raw (.type "range")),("len",.raw (.builtin "len")),("min",.raw (.builtin "min"))]) (foot := [(l,.list (f.map evA))]) (rest := rest) (by rw [hK];k_is) (by rw [hK];k_is) (room hr) rfl (fun vs e => by obtain ⟨v0,rfl⟩ := len1 e;rfl) (by decide) (by rfl) (by rfl) rfl rfl rfl (by rw [hK];exact (ϰg (gf_range _) (ϰg (ϰaD _) (ϰg (gf_min _) ϰD)))) (by rfl) pk.perm ?_
 intro c' I
 have F : Fix mk0.heap_1 c' 1 := I.fix hK (by exact δb hr rfl)
 have hG := I.glob
 have hcb : c'.cb = c.cb := I.cb
 have Fd := F.dp
 show WSs c' _ ⟨[("found",some (.ref l)),("records",none),("lost",none),("whys",none),("breaks",none),("open_end",none),("behind",none),("ender",none),("at",none),("kind",none),("octets",none),("end",none),("upto",none),("orphan",none)],_⟩ _
 refine' asn ?_ rfl;refine' ϰF ?_;refine' ϰl ?_;refine' ϱr (zl rfl) (fun _ => ?_);dsimp only [cA,nA];refine' setN S1 ?_
 refine' asg .i S2 rfl ?_;refine' asg .i S3 rfl ?_;refine' asg .i S4 rfl ?_;refine' asg .bo S5 rfl ?_
 refine' asn ?_ rfl;refine' ϰF ?_;refine' ϰl ?_;refine' ϱr (zl rfl) (fun _ => ?_);dsimp only [cA,nA]
 refine' setN S6 ?_;refine' asg .i S7 rfl ?_;refine' ϰh ?_;refine' ϱP ?_ (by intro _;rfl);refine' ϰr hG M0 ?_ rfl
 refine' ϰe ?_ rfl;refine' ϰc ?_;refine' ϰs hG M1 (.c (.nm G0) .n rfl) rfl ?_;refine' ϰT P2 ?_ ?_;exact δc hz rfl;refine' ϰi ?_
 refine' ϰO ?_;refine' ϰz (.c .ng (.c .ng .n rfl) rfl) ?_;refine' ϱY (by exact fun hq => φ1 [] [] (.eq (.n (-1)) (.n 0)) [-1] hq rfl) (by omega) (fun _ => ?_);dsimp only [cA,nA];rotate_left
 rename_i ra0 ba0 r
 refine ForOK.range (ι := Addr × Addr) (f.length + 1) (P := fun i _ => True) (J := fun i d => ⟨[("found",some (.ref l)),("records",some (.ref d.1)),("lost",some (.int (storyN f i).lost)),("whys",some (.int (storyN f i).whys)),("breaks",some (.int (storyN f i).breaks)),("open_end",some (.bool (storyN f i).oe)),("behind",some (.ref d.2)),("ender",some (.int (storyN f i).ender)),("at",none),("kind",none),("octets",none),("end",none),("upto",none),("orphan",none)],[(l,.list (f.map evA)),(d.1,.list ((storyN f i).recs.map recA)),(d.2,.list ((storyN f i).behind.map evA))]⟩) (ra0,ba0) P0 (by unfold Builtin.Range.rangeSize;rw [if_neg (by decide),if_pos (by exact κ0 [] [_] (.lt (.n (-2)) (.s (.c ν0) (.n 1))) [1] rfl)];simp;exact η0 [] [_] (.eq (.a (.s (.c ν0) (.n 1)) (.n 2)) (.a (.c ν0) (.n 1))) [1] [1] rfl) (small_down (by exact κ0 [] [_] (.le (.n (-4611686018427387904)) (.s (.c ν0) (.n 1))) [1] rfl) (by exact ω1 [] [_] (.lt (.s (.c ν0) (.n 1)) (.n 4611686018427387904)) (.Le ν0 (.n 3000)) hz rfl) (by decide) (by decide)) trivial ⟨LocLe.refl _,.cons P3 (.cons P2 (.cons P1 (.nil _)))⟩ ?_ ?_
 ·rintro i ⟨ra,ba⟩ hi _
  have hsi := storyN_inv hf i
  have hs1 : storyN f (i + 1) = stStep (evAt f i) (storyN f i) := rfl
  show WTg c' _ _ ⟨[("found",some (.ref l)),("records",some (.ref ra)),("lost",some (.int (storyN f i).lost)),("whys",some (.int (storyN f i).whys)),("breaks",some (.int (storyN f i).breaks)),("open_end",some (.bool (storyN f i).oe)),("behind",some (.ref ba)),("ender",some (.int (storyN f i).ender)),("at",none),("kind",none),("octets",none),("end",none),("upto",none),("orphan",none)],[(l,.list (f.map evA)),(ra,.list ((storyN f i).recs.map recA)),(ba,.list ((storyN f i).behind.map evA))]⟩ _
  generalize storyN f i = s at *
  obtain ⟨r0,l0,w0,br0,oe0,b0,en0⟩ := s
  obtain ⟨hb1,hb2,hb3⟩ := hsi
  dsimp only at hb1 hb2 hb3
  have hll := lead_le b0
  have hfl := flat_len hb1 (leadN b0)
  have hgu := getD_ev hb1 ((leadN b0 : Int)).toNat
  by_cases hat : 0 ≤ (f.length : Int) - 1 + (i : Int) * (-1)
  ·have hev : evAt f i = f.getD ((f.length : Int) - 1 + (i : Int) * (-1)).toNat evD := by unfold evAt;rw [if_pos hat]
   have hy := getD_ev hf ((f.length : Int) - 1 + (i : Int) * (-1)).toNat
   rw [hev] at hs1
   generalize he : f.getD ((f.length : Int) - 1 + (i : Int) * (-1)).toNat evD = e at *
   obtain ⟨k,y,x⟩ := e
   dsimp only at hy
   refine' ϱh S8 ?_;dsimp only [cA,nA];refine' asg .ng S9 rfl ?_;refine' asn ?_ rfl;refine' ϰM (ks := []) rfl ?_
   refine' setN S10 ?_;dsimp only [cA,nA];refine' asg .i S11 rfl ?_;refine' itc (.ge (.nm G8) .i) ?_
   refine' qD (fun hc => ?_) (fun hc => (by exfalso;exact β2 [] [_,_] (.nle (.n 0) (.a (.s (.c ν0) (.n 1)) (.r (.c ν1) (-1)))) (.le (.n 0) (.a (.s (.c ν0) (.n 1)) (.r (.c ν1) (-1)))) hc hat rfl));refine' ϰh ?_
   refine' ϰaV (by (repeat (first | exact NamesAre.nil | apply NamesAre.cons));done) ?_ rfl rfl;refine' ϰI ?_;refine' ϰa G0 ?_
   refine' ϰa G8 ?_;(focus (refine' ϱB (f := evA) (d := evD) P0 (fun _ _ => rfl) ?_ ?_ ?_ ?_;rotate_left 3;rw [he];dsimp only [cA,nA]))
   refine' tupS ((.cons S9 (.cons S10 (.cons S11 (.nil _))))) ?_;refine' nn ?_;refine' ϰd ?_;refine' itn ?_;refine' ϰY ?_
   refine' ϰU (.eq (.nm G9) .i) ?_;refine' qD' (fun hc => ?_) (fun hc => ?_);refine' ϰY ?_;refine' ϰU (.eq (.nm G9) .i) ?_
   refine' qD' (fun hc => ?_) (fun hc => ?_);refine' ϰE ?_;refine' fT ?_;refine' itc (.eq (.nm G9) .i) ?_
   refine' qD (fun hc => ?_) (fun hc => ?_);refine' asg .i S12 rfl ?_;dsimp only [cA,nA];refine' ϰh ?_
   refine' scan_loop hG P2 (by assumption) (by assumption) (by exact δA hat hb2 hz rfl) ?_;refine' ϰd ?_;refine' itn ?_;refine' ϰu ?_ rfl
   refine' ϰa G12 ?_;refine' ϰs hG M1 (.c (.nm G6) .n rfl) rfl ?_;refine' ϰT P2 ?_ ?_;exact δA hat hb2 hz rfl;refine' ϱV ?_;refine' isB ?_
   refine' qD (fun hc => ?_) (fun hc => ?_);refine' asn ?_ rfl;refine' ϰc ?_;refine' ϰF ?_;refine' ϰe ?_ rfl;refine' ϰG ?_
   refine' ϰe ?_ rfl;refine' ϰc ?_;refine' ϰa G10 ?_;refine' ϰI ?_;refine' ϰI ?_;refine' ϰa G6 ?_
   refine' ϰa G12 ?_;refine' ϱB (f := evA) (d := evD) P2 (fun _ _ => rfl) ?_ ?_ ?_ ?_;exact δz _;exact ω1 [] [_,_] (.lt (.c ν0) (.c ν1)) (.lt (.c ν0) (.c ν1)) hc rfl;exact δA hat hb2 hz rfl;refine' ϰi ?_
   refine' ϱU (fun _ _ => rfl) ?_ ?_ rfl ?_;decide;decide;refine' ϰN ?_ ?_;(focus (simp only [List.length_append];exact κ7 [] [_,_,_,_,_,_,_] (.Le (.a (.a ν0 ν1) ν2) (.n 16777216)) (.lt (.c ν3) (.c ν4)) (.Le ν0 (.n 31)) (.le (.n 0) (.a (.s (.c ν5) (.n 1)) (.r (.c ν6) (-1)))) (.Le ν2 (.n 31)) (.Le ν1 (.m 31 ν3)) (.Le ν4 ν6) (.Le ν5 (.n 3000)) [1,31,1,31,1,1,31,31] hc hy hat hgu hfl hb2 hz rfl))
   refine' ϰe ?_ rfl;refine' ϰI ?_;refine' ϰI ?_;refine' ϰa G6 ?_;refine' ϰa G12 ?_
   refine' ϱB (f := evA) (d := evD) P2 (fun _ _ => rfl) ?_ ?_ ?_ ?_;exact δz _;exact ω1 [] [_,_] (.lt (.c ν0) (.c ν1)) (.lt (.c ν0) (.c ν1)) hc rfl;exact δA hat hb2 hz rfl;refine' ϰi ?_
   refine' ϱU (fun _ _ => rfl) ?_ ?_ rfl ?_;decide;decide;refine' ϰl ?_;refine' tupK (zl rfl) ?_;refine' ϰl ?_
   refine' ϱr (zl rfl) (fun _ => ?_);dsimp only [cA,nA];refine' ϰa G1 ?_;refine' WBin.addL P0 P2 (lmq (by omega)) (fun _ => ?_)
   dsimp only [cA,nA];refine' setN S1 ?_;refine' ϰf ?_;refine' ϰd ?_;refine' asn ?_ rfl;refine' ϰW (f := evA) G6 ?_;refine' ϰy ?_
   refine' ϱQ (.add (.nm G12) .i) ?_;refine' isI ?_;refine' ϰK ?_;refine' ϰad P4 (δA hat hb2 hz rfl) ?_;intro D4
   dsimp only [cA,nA];refine' setN S6 ?_;refine' ϰf ?_;refine' nx ?_
   refine' ϱH hG P0 (by first | assumption | exact fun e he => hb1 e (ϰaG e he)) ?_;refine' ϰd ?_;refine' asn ?_ rfl
   refine' ϰF ?_;refine' ϰl ?_;refine' ϱr (zl rfl) (fun _ => ?_);dsimp only [cA,nA];refine' setN S6 ?_
   refine' itc (.eq (.nm G9) .i) ?_;refine' qD (fun hc => (by exfalso;exact φ2 [_] [] (.eq ξ0 (.n 1)) (.eq ξ0 (.n 2)) [1,-1] hc (by assumption) rfl)) (fun hc => ?_);refine' itn ?_;refine' ϱb ?_
   refine' ϰU (.ne (.nm G9) .i) ?_;refine' qD (fun hc => (by exfalso;omega)) (fun hc => ?_);refine' fT ?_;refine' ϰf ?_;refine' nn ?_
   refine' ϰd ?_;refine' asg (.nm G9) S7 rfl ?_;refine' ϰf ?_;refine' nn ?_;rotate_left;refine' itc (.eq (.nm G7) .i) ?_
   refine' qD (fun hc => ?_) (fun hc => ?_);refine' asg .bo S5 rfl ?_;refine' ϰf ?_;refine' nn ?_;refine' ϰd ?_
   refine' asn ?_ rfl;refine' ϰW (f := evA) G6 ?_;refine' ϰy ?_;refine' ϱQ (.add (.nm G12) .i) ?_;refine' isI ?_;refine' ϰK ?_
   refine' ϰad P2 (δA hat hb2 hz rfl) ?_;intro D4;dsimp only [cA,nA];refine' setN S6 ?_;refine' ϰf ?_;refine' nx ?_
   refine' ϱH hG P0 (by first | assumption | exact fun e he => hb1 e (ϰaG e he)) ?_;refine' ϰd ?_;refine' asn ?_ rfl
   refine' ϰF ?_;refine' ϰl ?_;refine' ϱr (zl rfl) (fun _ => ?_);dsimp only [cA,nA];refine' setN S6 ?_
   refine' itc (.eq (.nm G9) .i) ?_;refine' qD (fun hc => (by exfalso;exact φ2 [_] [] (.eq ξ0 (.n 1)) (.eq ξ0 (.n 2)) [1,-1] hc (by assumption) rfl)) (fun hc => ?_);refine' itn ?_;refine' ϱb ?_
   refine' ϰU (.ne (.nm G9) .i) ?_;refine' qD (fun hc => (by exfalso;omega)) (fun hc => ?_);refine' fT ?_;refine' ϰf ?_;refine' nn ?_
   refine' ϰd ?_;refine' asg (.nm G9) S7 rfl ?_;refine' ϰf ?_;refine' nn ?_;rotate_left;refine' ϰh ?_
   refine' ϱf G2 ?_;refine' ϰs hG M1 (.c (.nm G10) .n rfl) rfl ?_;refine' ϰv ?_ ?_;(focus (simp only [List.length_append];exact κ6 [] [_,_,_,_,_,_] (.Le (.a ν0 ν1) (.n 16777216)) (.Le ν0 (.n 31)) (.le (.n 0) (.a (.s (.c ν2) (.n 1)) (.r (.c ν3) (-1)))) (.Le ν1 (.m 31 ν4)) (.Le ν4 ν5) (.Le ν5 ν3) (.Le ν2 (.n 3000)) [1,1,31,1,31,31,31] hy hat hfl hll hb2 hz rfl))
   refine' ϰL ?_;refine' setN S2 ?_;dsimp only [cA,nA];refine' itn ?_;refine' ϰY ?_;refine' ϰU (.eq (.nm G7) .i) ?_
   refine' qD' (fun hc => ?_) (fun hc => ?_);refine' ϰY ?_;refine' ϰU (.eq (.nm G7) .i) ?_;refine' qD' (fun hc => ?_) (fun hc => ?_)
   refine' ϰE ?_;refine' fT ?_;refine' itc (.lt (.nm G7) .i) ?_;refine' qD (fun hc => ?_) (fun hc => ?_);refine' ϰh ?_
   refine' ϱf G3 ?_;refine' ϰi ?_;refine' ϰL ?_;refine' setN S3 ?_;dsimp only [cA,nA];refine' ϰf ?_;refine' nn ?_;refine' nn ?_
   refine' nn ?_;refine' ϰd ?_;refine' asn ?_ rfl;refine' ϰW (f := evA) G6 ?_;refine' ϰy ?_;refine' ϱQ (.add (.nm G12) .i) ?_
   refine' isI ?_;refine' ϰK ?_;refine' ϰad P2 (δA hat hb2 hz rfl) ?_;intro D4;dsimp only [cA,nA];refine' setN S6 ?_
   refine' ϰf ?_;refine' nx ?_;refine' ϱH hG P0 (by first | assumption | exact fun e he => hb1 e (ϰaG e he)) ?_;refine' ϰd ?_
   refine' asn ?_ rfl;refine' ϰF ?_;refine' ϰl ?_;refine' ϱr (zl rfl) (fun _ => ?_);dsimp only [cA,nA];refine' setN S6 ?_
   refine' itc (.eq (.nm G9) .i) ?_;refine' qD (fun hc => (by exfalso;exact φ2 [_] [] (.eq ξ0 (.n 1)) (.eq ξ0 (.n 2)) [1,-1] hc (by assumption) rfl)) (fun hc => ?_);refine' itn ?_;refine' ϱb ?_
   refine' ϰU (.ne (.nm G9) .i) ?_;refine' qD (fun hc => (by exfalso;omega)) (fun hc => ?_);refine' fT ?_;refine' ϰf ?_;refine' nn ?_
   refine' ϰd ?_;refine' asg (.nm G9) S7 rfl ?_;refine' ϰf ?_;refine' nn ?_;rotate_left;refine' ϰf ?_;refine' nn ?_
   refine' nn ?_;refine' nn ?_;refine' ϰd ?_;refine' asn ?_ rfl;refine' ϰW (f := evA) G6 ?_;refine' ϰy ?_
   refine' ϱQ (.add (.nm G12) .i) ?_;refine' isI ?_;refine' ϰK ?_;refine' ϰad P2 (δA hat hb2 hz rfl) ?_;intro D4
   dsimp only [cA,nA];refine' setN S6 ?_;refine' ϰf ?_;refine' nx ?_
   refine' ϱH hG P0 (by first | assumption | exact fun e he => hb1 e (ϰaG e he)) ?_;refine' ϰd ?_;refine' asn ?_ rfl
   refine' ϰF ?_;refine' ϰl ?_;refine' ϱr (zl rfl) (fun _ => ?_);dsimp only [cA,nA];refine' setN S6 ?_
   refine' itc (.eq (.nm G9) .i) ?_;refine' qD (fun hc => (by exfalso;exact φ2 [_] [] (.eq ξ0 (.n 1)) (.eq ξ0 (.n 2)) [1,-1] hc (by assumption) rfl)) (fun hc => ?_);refine' itn ?_;refine' ϱb ?_
   refine' ϰU (.ne (.nm G9) .i) ?_;refine' qD (fun hc => (by exfalso;omega)) (fun hc => ?_);refine' fT ?_;refine' ϰf ?_;refine' nn ?_
   refine' ϰd ?_;refine' asg (.nm G9) S7 rfl ?_;refine' ϰf ?_;refine' nn ?_;rotate_left;refine' tT ?_;refine' ϰh ?_
   refine' ϱf G4 ?_;refine' ϰi ?_;refine' ϰL ?_;refine' setN S4 ?_;dsimp only [cA,nA];refine' ϰh ?_;refine' ϱf G3 ?_
   refine' ϰr hG M2 ?_ rfl;refine' ϰe ?_ rfl;refine' ϰi ?_;refine' ϰe ?_ rfl;refine' ϰs hG M1 (.c (.nm G10) .n rfl) rfl ?_
   refine' ϰv ?_ ?_;(focus (simp only [List.length_append];exact κ6 [] [_,_,_,_,_,_] (.Le (.a ν0 ν1) (.n 16777216)) (.Le ν0 (.n 31)) (.le (.n 0) (.a (.s (.c ν2) (.n 1)) (.r (.c ν3) (-1)))) (.Le ν1 (.m 31 ν4)) (.Le ν4 ν5) (.Le ν5 ν3) (.Le ν2 (.n 3000)) [1,1,31,1,31,31,31] hy hat hfl hll hb2 hz rfl));refine' ϰl ?_;refine' ϰbf ?_;refine' ϰL ?_;refine' setN S3 ?_
   dsimp only [cA,nA];refine' ϰf ?_;refine' nn ?_;refine' nn ?_;refine' ϰd ?_;refine' asn ?_ rfl;refine' ϰW (f := evA) G6 ?_
   refine' ϰy ?_;refine' ϱQ (.add (.nm G12) .i) ?_;refine' isI ?_;refine' ϰK ?_;refine' ϰad P2 (δA hat hb2 hz rfl) ?_
   intro D4;dsimp only [cA,nA];refine' setN S6 ?_;refine' ϰf ?_;refine' nx ?_
   refine' ϱH hG P0 (by first | assumption | exact fun e he => hb1 e (ϰaG e he)) ?_;refine' ϰd ?_;refine' asn ?_ rfl
   refine' ϰF ?_;refine' ϰl ?_;refine' ϱr (zl rfl) (fun _ => ?_);dsimp only [cA,nA];refine' setN S6 ?_
   refine' itc (.eq (.nm G9) .i) ?_;refine' qD (fun hc => (by exfalso;exact φ2 [_] [] (.eq ξ0 (.n 1)) (.eq ξ0 (.n 2)) [1,-1] hc (by assumption) rfl)) (fun hc => ?_);refine' itn ?_;refine' ϱb ?_
   refine' ϰU (.ne (.nm G9) .i) ?_;refine' qD (fun hc => (by exfalso;omega)) (fun hc => ?_);refine' fT ?_;refine' ϰf ?_;refine' nn ?_
   refine' ϰd ?_;refine' asg (.nm G9) S7 rfl ?_;refine' ϰf ?_;refine' nn ?_;rotate_left;refine' tT ?_;refine' ϰh ?_
   refine' ϱf G4 ?_;refine' ϰi ?_;refine' ϰL ?_;refine' setN S4 ?_;dsimp only [cA,nA];refine' ϰh ?_;refine' ϱf G3 ?_
   refine' ϰr hG M2 ?_ rfl;refine' ϰe ?_ rfl;refine' ϰi ?_;refine' ϰe ?_ rfl;refine' ϰs hG M1 (.c (.nm G10) .n rfl) rfl ?_
   refine' ϰv ?_ ?_;(focus (simp only [List.length_append];exact κ6 [] [_,_,_,_,_,_] (.Le (.a ν0 ν1) (.n 16777216)) (.Le ν0 (.n 31)) (.le (.n 0) (.a (.s (.c ν2) (.n 1)) (.r (.c ν3) (-1)))) (.Le ν1 (.m 31 ν4)) (.Le ν4 ν5) (.Le ν5 ν3) (.Le ν2 (.n 3000)) [1,1,31,1,31,31,31] hy hat hfl hll hb2 hz rfl));refine' ϰl ?_;refine' ϰbf ?_;refine' ϰL ?_;refine' setN S3 ?_
   dsimp only [cA,nA];refine' ϰf ?_;refine' nn ?_;refine' nn ?_;refine' ϰd ?_;refine' asn ?_ rfl;refine' ϰW (f := evA) G6 ?_
   refine' ϰy ?_;refine' ϱQ (.add (.nm G12) .i) ?_;refine' isI ?_;refine' ϰK ?_;refine' ϰad P2 (δA hat hb2 hz rfl) ?_
   intro D4;dsimp only [cA,nA];refine' setN S6 ?_;refine' ϰf ?_;refine' nx ?_
   refine' ϱH hG P0 (by first | assumption | exact fun e he => hb1 e (ϰaG e he)) ?_;refine' ϰd ?_;refine' asn ?_ rfl
   refine' ϰF ?_;refine' ϰl ?_;refine' ϱr (zl rfl) (fun _ => ?_);dsimp only [cA,nA];refine' setN S6 ?_
   refine' itc (.eq (.nm G9) .i) ?_;refine' qD (fun hc => (by exfalso;exact φ2 [_] [] (.eq ξ0 (.n 1)) (.eq ξ0 (.n 2)) [1,-1] hc (by assumption) rfl)) (fun hc => ?_);refine' itn ?_;refine' ϱb ?_
   refine' ϰU (.ne (.nm G9) .i) ?_;refine' qD (fun hc => (by exfalso;omega)) (fun hc => ?_);refine' fT ?_;refine' ϰf ?_;refine' nn ?_
   refine' ϰd ?_;refine' asg (.nm G9) S7 rfl ?_;refine' ϰf ?_;refine' nn ?_;rotate_left;refine' ϰf ?_;refine' nx ?_
   refine' ϱH hG P2 (by first | assumption | exact fun e he => hb1 e (ϰaG e he)) ?_;refine' ϰd ?_;refine' asn ?_ rfl
   refine' ϰF ?_;refine' ϰl ?_;refine' ϱr (zl rfl) (fun _ => ?_);dsimp only [cA,nA];refine' setN S6 ?_
   refine' itc (.eq (.nm G9) .i) ?_;refine' qD (fun hc => ?_) (fun hc => ?_);refine' asn ?_ rfl;refine' ϰc ?_;refine' ϰF ?_
   refine' ϰe ?_ rfl;refine' ϰG ?_;refine' ϰz (.c (.nm G10) (.c (.nm G11) .n rfl) rfl) ?_;refine' tupK (zl rfl) ?_
   refine' ϰl ?_;refine' ϱr (zl rfl) (fun _ => ?_);dsimp only [cA,nA];refine' ϰa G1 ?_
   refine' WBin.addL P0 P3 (lmq (by omega)) (fun _ => ?_);dsimp only [cA,nA];refine' setN S1 ?_;refine' ϰf ?_;refine' ϰd ?_
   refine' asg (.nm G9) S7 rfl ?_;refine' ϰf ?_;refine' nn ?_;rotate_left;refine' itn ?_;refine' ϱb ?_
   refine' ϰU (.ne (.nm G9) .i) ?_;refine' qD (fun hc => ?_) (fun hc => (by exfalso;omega));refine' ϱb ?_;refine' ϰU (.ne (.nm G9) .ng) ?_
   refine' qD (fun hc => ?_) (fun hc => ?_);refine' ϱn ?_;refine' tT ?_;refine' ϰh ?_;refine' ϱf G2 ?_
   refine' ϰs hG M1 (.c (.nm G10) .n rfl) rfl ?_;refine' ϰv ?_ ?_;exact δc hy rfl;refine' ϰL ?_;refine' setN S2 ?_;dsimp only [cA,nA]
   refine' ϰh ?_;refine' ϱf G4 ?_;refine' ϰi ?_;refine' ϰL ?_;refine' setN S4 ?_;dsimp only [cA,nA];refine' itc (.ne (.nm G9) .ng) ?_
   refine' qD (fun hc => ?_) (fun hc => ?_);refine' ϰh ?_;refine' ϱf G3 ?_;refine' ϰi ?_;refine' ϰL ?_;refine' setN S3 ?_
   dsimp only [cA,nA];refine' ϰf ?_;refine' nn ?_;refine' nn ?_;refine' ϰd ?_;refine' asg (.nm G9) S7 rfl ?_;refine' ϰf ?_
   refine' nn ?_;rotate_left;refine' ϰf ?_;refine' nn ?_;refine' nn ?_;refine' ϰd ?_;refine' asg (.nm G9) S7 rfl ?_
   refine' ϰf ?_;refine' nn ?_;rotate_left;refine' fT ?_;refine' ϰf ?_;refine' nn ?_;refine' ϰd ?_;refine' asg (.nm G9) S7 rfl ?_
   refine' ϰf ?_;refine' nn ?_;rotate_left;refine' tT ?_;refine' asn ?_ rfl;refine' ϰc ?_;refine' ϰF ?_
   refine' ϰe ?_ rfl;refine' ϰG ?_;refine' ϰz (.c (.nm G9) (.c (.nm G10) (.c (.nm G11) .n rfl) rfl) rfl) ?_
   refine' tupK (zl rfl) ?_;refine' ϰl ?_;refine' ϱr (zl rfl) (fun _ => ?_);dsimp only [cA,nA];refine' ϰa G6 ?_
   refine' WBin.addL P0 P3 (lmq (by omega)) (fun _ => ?_);dsimp only [cA,nA];refine' setN S6 ?_;refine' ϰf ?_;refine' nn ?_;rotate_left;refine' tT ?_
   refine' asn ?_ rfl;refine' ϰc ?_;refine' ϰF ?_;refine' ϰe ?_ rfl;refine' ϰG ?_
   refine' ϰz (.c (.nm G9) (.c (.nm G10) (.c (.nm G11) .n rfl) rfl) rfl) ?_;refine' tupK (zl rfl) ?_;refine' ϰl ?_
   refine' ϱr (zl rfl) (fun _ => ?_);dsimp only [cA,nA];refine' ϰa G6 ?_;refine' WBin.addL P0 P3 (lmq (by omega)) (fun _ => ?_)
   dsimp only [cA,nA];refine' setN S6 ?_;refine' ϰf ?_;refine' nn ?_;rotate_left;exact ω1 [] [_,_] (.le (.n 0) (.a (.s (.c ν0) (.n 1)) (.r (.c ν1) (-1)))) (.le (.n 0) (.a (.s (.c ν0) (.n 1)) (.r (.c ν1) (-1)))) hc rfl;exact κ0 [] [_,_] (.lt (.a (.s (.c ν0) (.n 1)) (.r (.c ν1) (-1))) (.c ν0)) [1] rfl;exact δc hz rfl
   all_goals first
    |((refine' ϱK (_,_) trivial ?le);(case le => (rw [hs1];(first | rw [sB (by (first | exact .inr (Int.le_antisymm (ω1 [_] [] (.le ξ0 (.n 4)) (.eq ξ0 (.n 4)) hc rfl) (κ1 [_] [] (.le (.n 4) ξ0) (.eq ξ0 (.n 4)) [1,-1] hc rfl)) | exact .inl (Int.le_antisymm (ω1 [_] [] (.le ξ0 (.n 3)) (.eq ξ0 (.n 3)) hc rfl) (κ1 [_] [] (.le (.n 3) ξ0) (.eq ξ0 (.n 3)) [1,-1] hc rfl))))] | rw [sA1 (by exact Int.le_antisymm (ω1 [_] [] (.le ξ0 (.n 2)) (.eq ξ0 (.n 2)) (by assumption) rfl) (κ1 [_] [] (.le (.n 2) ξ0) (.eq ξ0 (.n 2)) [1,-1] (by assumption) rfl)) (by assumption)] | rw [sA2 (by exact Int.le_antisymm (ω1 [_] [] (.le ξ0 (.n 2)) (.eq ξ0 (.n 2)) (by assumption) rfl) (κ1 [_] [] (.le (.n 2) ξ0) (.eq ξ0 (.n 2)) [1,-1] (by assumption) rfl)) (by assumption) (by assumption)] | rw [sA3 (by exact Int.le_antisymm (ω1 [_] [] (.le ξ0 (.n 2)) (.eq ξ0 (.n 2)) (by assumption) rfl) (κ1 [_] [] (.le (.n 2) ξ0) (.eq ξ0 (.n 2)) [1,-1] (by assumption) rfl)) (by assumption) (by assumption) (by (first | exact .inr (Int.le_antisymm (ω1 [_] [] (.le ξ0 (.n 2)) (.eq ξ0 (.n 2)) (by assumption) rfl) (κ1 [_] [] (.le (.n 2) ξ0) (.eq ξ0 (.n 2)) [1,-1] (by assumption) rfl)) | exact .inl (Int.le_antisymm (ω1 [_] [] (.le ξ0 (.n 1)) (.eq ξ0 (.n 1)) (by assumption) rfl) (κ1 [_] [] (.le (.n 1) ξ0) (.eq ξ0 (.n 1)) [1,-1] (by assumption) rfl))))] | rw [sA4 (by exact Int.le_antisymm (ω1 [_] [] (.le ξ0 (.n 2)) (.eq ξ0 (.n 2)) (by assumption) rfl) (κ1 [_] [] (.le (.n 2) ξ0) (.eq ξ0 (.n 2)) [1,-1] (by assumption) rfl)) (by assumption) (by assumption) (by omega) (by assumption)] | rw [sA5 (by exact Int.le_antisymm (ω1 [_] [] (.le ξ0 (.n 2)) (.eq ξ0 (.n 2)) (by assumption) rfl) (κ1 [_] [] (.le (.n 2) ξ0) (.eq ξ0 (.n 2)) [1,-1] (by assumption) rfl)) (by assumption) (by assumption) (by omega) (by assumption)] | rw [s1 (by exact η1 [_] [] (.eq ξ0 (.n 1)) (.eq ξ0 (.n 1)) [1,-1] [1,1] hc rfl)] | rw [sM3 (by omega)] | rw [sM2 (by omega)] | rw [sO (by omega) (by omega) (by omega) (by omega) (by omega) (by omega)]);exact ⟨by (first | exact LM 7936 _ | exact LM 3840 _),by (first | exact .cons P4 (.cons P2 (.cons P0 (.nil _))) | exact .cons P2 (.cons P2 (.cons P0 (.nil _))) | exact .cons P3 (.cons P0 (.cons P1 (.nil _))) | exact .cons P1 (.cons P1 (.cons P0 (.nil _))))⟩)))
    | trace_state
  ·have hev : evAt f i = (-3,[],0) := by unfold evAt;rw [if_neg hat]
   rw [hev] at hs1
   refine' ϱh S8 ?_;dsimp only [cA,nA];refine' asg .ng S9 rfl ?_;refine' asn ?_ rfl;refine' ϰM (ks := []) rfl ?_
   refine' setN S10 ?_;dsimp only [cA,nA];refine' asg .i S11 rfl ?_;refine' itc (.ge (.nm G8) .i) ?_
   refine' qD (fun hc => (by exfalso;exact β2 [] [_,_] (.le (.n 0) (.a (.s (.c ν0) (.n 1)) (.r (.c ν1) (-1)))) (.nle (.n 0) (.a (.s (.c ν0) (.n 1)) (.r (.c ν1) (-1)))) hc hat rfl)) (fun hc => ?_);refine' ϰf ?_;refine' ϰd ?_;refine' itn ?_;refine' ϰY ?_
   refine' ϰU (.eq (.nm G9) .i) ?_;refine' qD' (fun hc => ?_) (fun hc => (by exfalso;exact φ1 [] [] (.eq (.n (-3)) (.n 3)) [-1] hc rfl));refine' ϰY ?_;refine' ϰU (.eq (.nm G9) .i) ?_
   refine' qD' (fun hc => ?_) (fun hc => (by exfalso;exact φ1 [] [] (.eq (.n (-3)) (.n 4)) [-1] hc rfl));refine' ϰE ?_;refine' fT ?_;refine' itc (.eq (.nm G9) .i) ?_
   refine' qD (fun hc => (by exfalso;exact φ1 [] [] (.eq (.n (-3)) (.n 2)) [-1] hc rfl)) (fun hc => ?_);refine' ϰf ?_;refine' nx ?_
   refine' ϱH hG P2 (by first | assumption | exact fun e he => hb1 e (ϰaG e he)) ?_;refine' ϰd ?_;refine' asn ?_ rfl
   refine' ϰF ?_;refine' ϰl ?_;refine' ϱr (zl rfl) (fun _ => ?_);dsimp only [cA,nA];refine' setN S6 ?_
   refine' itc (.eq (.nm G9) .i) ?_;refine' qD (fun hc => (by exfalso;exact φ1 [] [] (.eq (.n (-3)) (.n 1)) [-1] hc rfl)) (fun hc => ?_);refine' itn ?_;refine' ϱb ?_
   refine' ϰU (.ne (.nm G9) .i) ?_;refine' qD (fun hc => ?_) (fun hc => (by exfalso;omega));refine' ϱb ?_;refine' ϰU (.ne (.nm G9) .ng) ?_
   refine' qD (fun hc => (by exfalso;omega)) (fun hc => ?_);refine' fT ?_;refine' ϰf ?_;refine' nn ?_;refine' ϰd ?_
   refine' asg (.nm G9) S7 rfl ?_;refine' ϰf ?_;refine' nn ?_;rotate_left
   all_goals first
    |((refine' ϱK (_,_) trivial ?le);(case le => (rw [hs1];(first | rw [sB (by omega)] | rw [sA1 (by omega) (by assumption)] | rw [sA2 (by omega) (by assumption) (by assumption)] | rw [sA3 (by omega) (by assumption) (by assumption) (by omega)] | rw [sA4 (by omega) (by assumption) (by assumption) (by omega) (by assumption)] | rw [sA5 (by omega) (by assumption) (by assumption) (by omega) (by assumption)] | rw [s1 (by omega)] | rw [sM3 (by exact Int.le_antisymm (by decide) (by decide))] | rw [sM2 (by omega)] | rw [sO (by omega) (by omega) (by omega) (by omega) (by omega) (by omega)]);exact ⟨by exact LM 3840 _,by exact .cons P1 (.cons P1 (.cons P0 (.nil _)))⟩)))
    | trace_state
 ·rintro ⟨ra,ba⟩ _
  refine' nx ?_;refine' ϰP ?_;refine' ϰG ?_
  refine' ϰz (.c (.nm G1) (.c (.nm G2) (.c (.nm G3) (.c (.nm G4) (.c (.nm G5) .n rfl) rfl) rfl) rfl) rfl) ?_;refine' tupK (zl rfl) ?_
  refine' ϰm ?_;refine' ϰx ?_;rotate_left
  refine ⟨_,?_,h ra⟩
  exact ⟨LocLe.refl _,.cons P1 (.cons P0 (.skip _ (.refl _)))⟩
end
theorem law_call {prog : Program} {w : World} {s : Shared} {f l : Addr} {fo : Obj} {name qual : Str} {params : Arguments} {body : List Stmt} {scope : Scope} {dV kV doc pm cdv ct : Value} {an : Option Addr} {z xs : Str} {G : List (Str × AV)} {more : List Str} {p : Program} {loose : List Str} {mean : ExcName → Option Value} {mg mb : Str → Option Value} {R : Result → Shared → Prop} (K : Frag) (X : K.In s.heap) (T : Top p loose mean mg mb s.heap)
  (ho : s.heap.get? f = some fo) (hd : fo.data = .func (fnX name qual params body scope [] dV kV doc pm an cdv ct)) (hcd : s.heap.CodeRec cdv qual)
  (hbind : bindArgs (fnX name qual params body scope [] dV kV doc pm an cdv ct) ⟨[.ref l],[]⟩ = pure [(xs,.ref l)])
  (hnd : (xs :: more).Nodup) (hloc : ∀ x ∈ xs :: more,scope.names.lookup x = some .local ∧ (x == ("__debug__" : Str)) = false)
  (hcl : ∀ n,cellsFrom n scope.names [] = [(z,n)]) (hco : scope.isCoroutine = false) (hgen : scope.isGenerator = false) (hk : scope.kind = .function)
  (hG : GAll K G) (hGs : ∀ p ∈ G,scope.names.lookup p.1 = some .globalImplicit)
  (hbody : ∀ (c : Cx) (ca : Addr),c.cb = true → c.prog = prog → c.w = w → c.K = K → c.dp = 2 + claimMargin → c.cs = scope → c.cl = [(z,ca)] → c.glob = G → c.h0 = s.heap → c.un = 7 → c.gd = some [] → c.outer = [] → c.K.In c.base → Top c.p c.loose c.mean c.mg c.mb c.base →
   WSs c body ⟨(xs,some (.ref l)) :: more.map (fun x => (x,none)),[(ca,.cell none)]⟩ (retK fun av _ => av = .bool true))
  (hR : ∀ L m s',Fr s.heap L s'.heap m → s' = { s with heap := s'.heap,toks := s'.toks } → R (.ok (.ret (.bool true))) s') :
  codeS true (model prog w) callerA (.call (.ref f) ⟨[.ref l],[]⟩) R s := by
 refine ϱl (by decide) ho hd hco hgen rfl hcd ?_
 rw [hbind]
 refine wpAny_pure ?_
 refine wpAny_newFunctionEnv_cells hk (fun x hx => .inl ?_) fun env' he s' x => ?_
 ·have := List.mem_singleton.mp hx;subst this
  exact (hloc xs (.head _)).1
 subst he
 refine ⟨(Top.nolimit T).keeps x.toInCall.keep,codeS_func ?_⟩
 obtain ⟨h₁,tk,rfl,_⟩ := x.done
 have hk₁ := x.toInCall.keep
 obtain ⟨cells,NC,Y⟩ := Cl.news (h₀ := s.heap) (Nat.le_refl _) fun n c hm => ⟨x.cell n c (lookup_of_mem_nodup (cellsFrom_names scope.names 0 (s.heap.objs.size + 1) [] [] rfl ▸ (by rw [hcl];simp)) hm),x.above n c hm⟩
 rw [hcl] at Y
 obtain ⟨co,rfl,hcd'⟩ := CellsAre.one Y
 have hkx : (envOfC qual scope s.heap.objs.size f cdv).kindOf xs = some .local := (hloc xs (.head _)).1
 have hcn : ∀ kindOf : Str → Option NameKind,kindOf xs = some .local → bindC kindOf [(xs,.ref l)] (fun _ => none) z = none := fun kindOf hk2 => by
  simp only [bindC,hk2,if_true]
 replace hcd' : co.data = .cell none := hcd'.trans (congrArg Data.cell (hcn _ (hloc xs (.head _)).1))
 let c : Cx := {
  cb := true,prog := prog,w := w,K := K,p := p,loose := loose,mean := mean,mg := mg,mb := mb,dp := 2 + claimMargin,un := 7,gd := some [],cn := qual,cs := scope,L := s.heap.objs.size,fa := f,ccd := cdv,cl := cellsFrom (s.heap.objs.size + 1) scope.names [],outer := [],
  A0 := callerA,base := s.heap,h0 := s.heap,s0 := s,glob := G,B := below_caller s.heap,X := X,T := T,hk := hk,
  hg := fun x av hm => ⟨hGs _ hm,hG x av hm⟩ }
 have W0 := hbody c (s.heap.objs.size + 1) rfl rfl rfl rfl rfl rfl (hcl _) rfl rfl rfl rfl rfl X T
 have F : Fr s.heap s.heap.objs.size h₁ (bindL (envOfC qual scope s.heap.objs.size f cdv).kindOf [(xs,.ref l)] fun _ => none) := ⟨x.toInCall.ns,hk₁,Nat.le_refl _⟩
 refine (W0 [] [] _ _ ?_ ?_)
 ·refine ⟨⟨_,F,?_⟩,?_,⟨[(s.heap.objs.size + 1,co)],Owns.put (l := [(s.heap.objs.size + 1,co)]) ⟨co,none,rfl,hcd',trivial⟩ (by simp only [OwN,OwC]),?_,?_⟩,rfl⟩
  ·intro y o hm
   have hy : y ∈ xs :: more := by
    rcases List.mem_cons.mp hm with e | q
    ·cases e;exact .head _
    ·obtain ⟨p,hp1,e⟩ := List.mem_map.mp q;cases e;exact .tail _ hp1
   refine ⟨hloc y hy,fun av e => ?_⟩
   subst e
   rcases List.mem_cons.mp hm with e | q
   ·cases e
    refine ⟨.ref l,?_,.of_ref⟩
    simp only [bindL,hkx,if_true]
   ·obtain ⟨p,hp1,e⟩ := List.mem_map.mp q;cases e
  ·show (List.map (·.1) ((xs,some (AV.ref l)) :: more.map (fun x => (x,(none : Option AV))))).Nodup
   rw [List.map_cons,List.map_map]
   show (xs :: List.map (fun x : Str => x) more).Nodup
   rw [List.map_id'];exact hnd
  ·intro q hq
   simp only [List.append_nil] at hq
   exact NC q hq
  ·simp
 ·intro fl f' σ' T' s' e' H' rf hΨ
  obtain ⟨m',F'',hl'⟩ := H'.fr_
  have fin : ∀ av v,VR T' av v → av = .bool true → R (.ok (.ret v)) s' := fun av v rv e => by
   subst e
   cases rv.bool_inv
   exact hR _ _ s' F'' H'.rest
  cases fl with
  | next => cases rf;exact fin .none .none .of_none hΨ
  | brk => exact hΨ.elim
  | cont => exact hΨ.elim
  | ret av => obtain ⟨v,rfl,rv⟩ := rf;exact fin av v rv hΨ
section
variable {prog : Program} {w : World} {A₀ A : Around} {s : Shared} {base h₀ : Heap} {env : Env} {L : Addr} {m : Str → Option Value} {news : List (Addr × Obj)} {K : Frag} {p : Program} {loose : List Str} {mean : ExcName → Option Value} {mg mb : Str → Option Value}
  {R : Result → Shared → Prop} {name qual : Str} {params : Arguments} {body : List Stmt} {scope : Scope} {dV kV doc pm cdv ct oc : Value} {an od : Option Addr} {osl : Array (Option Value)} {f : Addr} {args : Args} {binds : List (Str × Value)}
theorem code_defX0 (B : Below A₀ base [] h₀) (F : Fr h₀ L s.heap m) (X₀ : K.In h₀) (N : News h₀ L s.heap news) (T : Top p loose mean mg mb h₀) (hA : A.frames = some [env]) (hf : env.frame = some L) (hke : env.scope.kind = .function)
  (ho : K.lookup f = some ⟨oc,od,.func (fnOf name qual params body scope dV kV doc pm an cdv ct),osl⟩) (hcd : codeIn K cdv qual = true) (hroom : A.depth < recursionLimit)
  (hbind : BindsTo s (fnOf name qual params body scope dV kV doc pm an cdv ct) args binds) (hloc : ∀ y ∈ binds,scope.names.lookup y.1 = some .local)
  (h : ∀ g L' h₁,Fr h₀ L g m → Fr g L' h₁ (fun y => binds.reverse.lookup y) → News g L' h₁ news → Below A base [env] g → K.In g → Top p loose mean mg mb g → KtsDicts ([env].filterMap (·.frame)) g →
   wpAny (model prog w) (A.deeper (envOf qual scope L' f cdv)) (execs body (envOf qual scope L' f cdv))
    (fun fl s' => LeaveS0 ([env].filterMap (·.frame)) h₀ L m g R (match fl with | .ret v => v | _ => .none) s')
    (fun e s' => wpAny (model prog w) (A.deeper (envOf qual scope L' f cdv)) (leaving (envOf qual scope L' f cdv) e) (fun _ s'' => R (.error e) s'') (fun e' s'' => R (.error e') s'') s')
    { s with heap := h₁,toks := s.toks + binds.length })
  (hco : scope.isCoroutine = false) (hgen : scope.isGenerator = false) (hk : scope.kind = .function)
  (hcell : ∀ x ∈ scope.names,x.2 ≠ .cell) : codeAny (model prog w) A (.call (.ref f) args) R s := by
 have X := X₀.keeps F.keep
 refine codeAny_call_def (fd := fnOf name qual params body scope dV kV doc pm an cdv ct) (body := body) (binds := binds) hroom (X _ _ ho) rfl (T.nolimit.keeps F.keep) (codeRec_of X hcd) rfl hbind hcell hloc (fun h₁ hns hk₁ => ?_) hco hgen hk
 obtain ⟨FG,B₂,st,_⟩ := groundX (R := fun _ _ => True) B F N hA hf hke
 obtain ⟨oL,es,ep,hLg,hLd,hLk,hLf⟩ := FG.ns
 have hfm : ∀ b,b ∈ ([env].filterMap (·.frame)) → b = L := fun b hb => by
  simp only [List.filterMap_cons,hf,List.filterMap_nil,List.mem_singleton] at hb;exact hb
 have hNs : ∀ (sl : Array (Option Value)) h',h'.get? L = some { oL with slots := sl } → Heap.Ns h' L m := fun sl h' e => ⟨_,es,ep,e,hLd,hLk,hLf⟩
 refine wpAny_mono (h _ s.heap.objs.size h₁ FG ⟨hns,fun b o e => hk₁ b o (of_hideAll _ e),Nat.le_of_eq (hideAll_size _ _)⟩
  (fun p hp => ⟨hk₁ _ _ (N p hp).1,Nat.ne_of_lt (Heap.lt_size (N p hp).1),hideAll_none _ (List.mem_map_of_mem hp)⟩) B₂ (X₀.keeps st) (T.keeps st) (fun b hb => by
   have := hfm b hb;subst this
   exact ⟨oL,es,ep,hLg,hLd⟩)) (fun fl s' hl => ?_) fun _ _ y => y
 obtain ⟨g',L',m',news',T',F',N',k⟩ := hl
 have nL₀ : h₀.get? L = none := kts_self F
 obtain ⟨sl,hs⟩ := T'.up hLg
 refine k ⟨hNs sl _ (F'.keep _ _ hs),fun b o e => F'.keep b o (T'.other b o (st b o e) (fun q => by
  have z := hfm b q
  rw [z,nL₀] at e
  cases e)),F.above⟩ fun p hp => ⟨(N' p hp).1,fun q => ?_,?_⟩
 ·have := (N' p hp).2.2;rw [q,hs] at this;cases this
 ·cases q : h₀.get? p.1 with
  | none => rfl
  | some o =>
   obtain ⟨sl',hs'⟩ := T'.up (st _ _ q)
   have := (N' p hp).2.2
   rw [hs'] at this
   cases this
end
structure Tot where
 recs : List (Y × Int)
 lost : Int
 whys : Int
 breaks : Int
 oe : Bool
theorem Tot.eq {a b : Tot} (h1 : a.recs = b.recs) (h2 : a.lost = b.lost) (h3 : a.whys = b.whys) (h4 : a.breaks = b.breaks) (h5 : a.oe = b.oe) : a = b := by
 cases a;cases b;simp_all
noncomputable def tot (s : SS) : Tot := ⟨s.recs,s.lost,s.whys,s.breaks,s.oe⟩
noncomputable def Tot.add (t : Tot) (l w b : Int) : Tot := { t with lost := t.lost + l,whys := t.whys + w,breaks := t.breaks + b }
noncomputable def Tot.rc (t : Tot) (r : Y × Int) : Tot := { t with recs := r :: t.recs }
noncomputable def ln (y : Y) : Int := y.length
noncomputable def fwd : List Ev → Bool → Y → Tot
 | [],b,_ => ⟨[],0,0,0,b⟩
 | e :: es,b,p =>
  if e.1 = 1 then ((fwd es false []).rc (e.2.1,e.2.2)).add (if b then ln p else 0) (if b then mnF 1 (ln p) else 0) (if b then 1 else 0)
  else if e.1 = 2 then (fwd es true e.2.1).add (if b then ln p else 0) (if b then mnF 1 (ln p) else 0) (if b then 1 else 0)
  else if e.1 = 3 then (if b then fwd es true (p ++ e.2.1) else (fwd es false []).add (ln e.2.1) 1 1)
  else if e.1 = 4 then (if b then (fwd es false []).rc (p ++ e.2.1,e.2.2) else (fwd es false []).add (ln e.2.1) 1 1)
  else if e.1 = -2 then (fwd es false []).add (ln e.2.1 + if b then ln p else 0) (if b then 1 else 0) 1
  else if e.1 = -1 then (fwd es false []).add (ln e.2.1 + if b then ln p else 0) (1 + if b then 1 else 0) 1
  else (fwd es false []).add (ln e.2.1 + if b then ln p else 0) 1 1
noncomputable def backL : List Ev → SS
 | [] => SS0
 | e :: es => stStep e (backL es)
theorem lead3 {e : Ev} {b : List Ev} (h : e.1 = 3) : leadN (e :: b) = leadN b + 1 := by simp [leadN,List.takeWhile_cons,h]
theorem lead0 {e : Ev} {b : List Ev} (h : e.1 ≠ 3) : leadN (e :: b) = 0 := by simp [leadN,List.takeWhile_cons,h]
theorem flat_s {e : Ev} {b : List Ev} {n : Nat} : flat (e :: b) (n + 1) = e.2.1 ++ flat b n := by simp [flat]
theorem flat_0 {b : List Ev} : flat b 0 = [] := by simp [flat]
theorem orph_s {e : Ev} {b : List Ev} : orph (e :: b) (e :: b).length = ln e.2.1 + orph b b.length := by simp [orph,ln]
theorem orph_0 {n : Nat} : orph [] n = 0 := by simp [orph]
theorem st2_nil {p : Y} {s : SS} (h : s.behind = []) : st2 p s =
  (if s.ender = 9999 then { s with oe := true }
  else if s.ender = 1 ∨ s.ender = 2 then { s with lost := s.lost + ln p,breaks := s.breaks + 1,whys := s.whys + mnF 1 (ln p) }
  else if s.ender < 0 then { s with lost := s.lost + ln p,whys := s.whys + 1 } else { s with lost := s.lost + ln p }) := by
 obtain ⟨r,l,w,k,o,b,en⟩ := s
 dsimp only at h;subst h
 simp only [st2,leadN,List.takeWhile_nil,List.length_nil,flat_0,List.append_nil,List.drop_nil,Nat.lt_irrefl,if_false,ln]
theorem st2_3 {p : Y} {s : SS} {e : Ev} (h : e.1 = 3) : st2 p { s with behind := e :: s.behind } = st2 (p ++ e.2.1) s := by
 obtain ⟨r,l,w,k,o,b,en⟩ := s
 simp only [st2,lead3 h,flat_s,List.append_assoc,List.length_cons,Nat.add_lt_add_iff_right,List.drop_succ_cons,List.getD_cons_succ]
theorem st2_4 {p : Y} {s : SS} {e : Ev} (h : e.1 = 4) : st2 p { s with behind := e :: s.behind } = { s with recs := (p ++ e.2.1,e.2.2) :: s.recs } := by
 obtain ⟨r,l,w,k,o,b,en⟩ := s
 simp only [st2,lead0 (show e.1 ≠ 3 by exact fun hq => δH h hq rfl),flat_0,List.append_nil,List.length_cons,List.drop_succ_cons,List.drop_zero,List.getD_cons_zero,Nat.zero_lt_succ,if_true,Nat.zero_add]
theorem stO_beh {s : SS} : (stO s).behind = [] := rfl
theorem stO_nil {s : SS} (h : s.behind = []) : stO s = s := by
 obtain ⟨r,l,w,k,o,b,en⟩ := s
 dsimp only at h;subst h
 simp [stO,orph_0]
theorem stK_beh {e : Ev} {s : SS} (h : s.behind = []) : (stK e s).behind = [] := by unfold stK;split <;> (try split) <;> (try split) <;> exact h
theorem stK_end {e : Ev} {s : SS} : (stK e s).ender = e.1 := by unfold stK;split <;> (try split) <;> (try split) <;> rfl
theorem tot_O_cons {s : SS} {e : Ev} : tot (stO { s with behind := e :: s.behind }) = (tot (stO s)).add (ln e.2.1) 1 1 := by
 refine Tot.eq rfl ?_ ?_ ?_ rfl
 ·show s.lost + orph (e :: s.behind) (e :: s.behind).length = s.lost + orph s.behind s.behind.length + ln e.2.1
  rw [orph_s];exact η0 [_,_,_] [] (.eq (.a ξ0 (.a ξ1 ξ2)) (.a (.a ξ0 ξ2) ξ1)) [1] [1] rfl
 ·show s.whys + ((e :: s.behind).length : Int) = s.whys + (s.behind.length : Int) + 1
  simp only [List.length_cons];exact η0 [_] [_] (.eq (.a ξ0 (.c (.a ν0 (.n 1)))) (.a (.a ξ0 (.c ν0)) (.n 1))) [1] [1] rfl
 ·show s.breaks + ((e :: s.behind).length : Int) = s.breaks + (s.behind.length : Int) + 1
  simp only [List.length_cons];exact η0 [_] [_] (.eq (.a ξ0 (.c (.a ν0 (.n 1)))) (.a (.a ξ0 (.c ν0)) (.n 1))) [1] [1] rfl
theorem fwd_story : ∀ (es : List Ev),(∀ e ∈ es,-2 ≤ e.1 ∧ e.1 < 256) → fwd es false [] = tot (stO (backL es)) ∧ ∀ p,fwd es true p = tot (stO (st2 p (backL es)))
 | [],_ => by
  refine ⟨rfl,fun p => ?_⟩
  rw [backL,st2_nil rfl];rfl
 | e :: es,hk => by
  obtain ⟨ih0,ih1⟩ := fwd_story es fun e he => hk e (.tail _ he)
  have hke := hk e (.head _)
  by_cases h3 : e.1 = 3
  ·have hb : backL (e :: es) = { backL es with behind := e :: (backL es).behind } := by simp only [backL,stStep,h3,true_or,if_true]
   rw [hb]
   refine ⟨?_,fun p => ?_⟩
   ·rw [tot_O_cons,← ih0];simp [fwd,h3]
   ·rw [st2_3 h3,← ih1];simp [fwd,h3]
  by_cases h4 : e.1 = 4
  ·have hb : backL (e :: es) = { backL es with behind := e :: (backL es).behind } := by simp only [backL,stStep,h4,or_true,if_true]
   rw [hb]
   refine ⟨?_,fun p => ?_⟩
   ·rw [tot_O_cons,← ih0];simp [fwd,h4]
   ·rw [st2_4 h4]
    have : tot (stO { backL es with recs := (p ++ e.2.1,e.2.2) :: (backL es).recs }) = (tot (stO (backL es))).rc (p ++ e.2.1,e.2.2) := rfl
    rw [this,← ih0];simp [fwd,h4]
  have hb : backL (e :: es) = stK e (stO (if e.1 = 2 then st2 e.2.1 (backL es) else backL es)) := by
   simp only [backL,stStep,h3,h4,or_self,if_false]
  rw [hb]
  have hbe : (stK e (stO (if e.1 = 2 then st2 e.2.1 (backL es) else backL es))).behind = [] := stK_beh stO_beh
  have hen : (stK e (stO (if e.1 = 2 then st2 e.2.1 (backL es) else backL es))).ender = e.1 := stK_end
  rw [stO_nil hbe]
  have hmain : fwd (e :: es) false [] = tot (stK e (stO (if e.1 = 2 then st2 e.2.1 (backL es) else backL es))) := by
   by_cases h1 : e.1 = 1
   ·have : ¬ e.1 = 2 := by exact fun hq => δH h1 hq rfl
    simp only [fwd,h1,if_true,stK,ih0,show ¬ (1 : Int) = 2 by decide,if_false]
    refine Tot.eq rfl ?_ ?_ ?_ rfl <;> (simp [Tot.add,Tot.rc,tot])
   ·by_cases h2 : e.1 = 2
    ·simp only [fwd,h1,h2,if_true,if_false,stK,ih1,show ¬ (2 : Int) = 1 by decide,ne_eq,not_true,false_and]
     refine Tot.eq rfl ?_ ?_ ?_ rfl <;> (simp [Tot.add,Tot.rc,tot])
    ·by_cases hm2 : e.1 = -2
     ·simp only [fwd,h1,h2,h3,h4,hm2,if_true,if_false,stK,ih0]
      refine Tot.eq rfl ?_ ?_ ?_ rfl <;> (simp [Tot.add,Tot.rc,tot,ln])
     ·by_cases hm1 : e.1 = -1
      ·simp only [fwd,h1,h2,h3,h4,hm2,hm1,if_true,if_false,stK,ih0]
       refine Tot.eq rfl ?_ ?_ ?_ rfl <;> (simp [Tot.add,Tot.rc,tot,ln])
      ·have hm3 : ¬ e.1 = -3 := by exact fun hq => δF hke.1 hq rfl
       simp only [fwd,h1,h2,h3,h4,hm2,hm1,hm3,if_true,if_false,stK,ih0,ne_eq,not_false_eq_true,and_self]
       refine Tot.eq rfl ?_ ?_ ?_ rfl <;> (simp [Tot.add,Tot.rc,tot,ln])
  refine ⟨hmain,fun p => ?_⟩
  have hpre : fwd (e :: es) true p = (fwd (e :: es) false []).add (ln p) (if e.1 = 1 ∨ e.1 = 2 then mnF 1 (ln p) else if e.1 < 0 then 1 else 0) (if e.1 = 1 ∨ e.1 = 2 then 1 else 0) := by
   by_cases h1 : e.1 = 1
   ·simp [fwd,h1,Tot.add]
   ·by_cases h2 : e.1 = 2
    ·simp [fwd,h2,Tot.add]
    ·by_cases hm2 : e.1 = -2
     ·simp [fwd,hm2,Tot.add];exact η0 [_,_,_] [] (.eq (.a ξ0 (.a ξ1 ξ2)) (.a (.a ξ0 ξ1) ξ2)) [1] [1] rfl
     ·by_cases hm1 : e.1 = -1
      ·simp [fwd,hm1,Tot.add];exact ⟨η0 [_,_,_] [] (.eq (.a ξ0 (.a ξ1 ξ2)) (.a (.a ξ0 ξ1) ξ2)) [1] [1] rfl,η0 [_] [] (.eq (.a ξ0 (.n 2)) (.a (.a ξ0 (.n 1)) (.n 1))) [1] [1] rfl⟩
      ·have : ¬ e.1 < 0 := by omega
       simp [fwd,h1,h2,h3,h4,hm2,hm1,Tot.add,this];exact η0 [_,_,_] [] (.eq (.a ξ0 (.a ξ1 ξ2)) (.a (.a ξ0 ξ1) ξ2)) [1] [1] rfl
  rw [hpre,hmain,st2_nil hbe,hen]
  generalize stK e (stO (if e.1 = 2 then st2 e.2.1 (backL es) else backL es)) = S at hbe hen ⊢
  have h99 : ¬ e.1 = 9999 := by exact fun hq => φ2 [_] [] (.lt ξ0 (.n 256)) (.eq ξ0 (.n 9999)) [1,-1] hke.2 hq rfl
  by_cases h12 : e.1 = 1 ∨ e.1 = 2
  ·simp only [if_neg h99,if_pos h12];exact congrArg tot (stO_nil (s := { S with lost := S.lost + ln p,breaks := S.breaks + 1,whys := S.whys + mnF 1 (ln p),ender := e.1 }) hbe).symm
  ·by_cases hn : e.1 < 0
   ·simp only [if_neg h99,if_neg h12,if_pos hn]
    refine Eq.trans ?_ (congrArg tot (stO_nil (s := { S with lost := S.lost + ln p,whys := S.whys + 1,ender := e.1 }) hbe).symm)
    refine Tot.eq rfl rfl rfl ?_ rfl
    simp [Tot.add,tot]
   ·simp only [if_neg h99,if_neg h12,if_neg hn]
    refine Eq.trans ?_ (congrArg tot (stO_nil (s := { S with lost := S.lost + ln p,ender := e.1 }) hbe).symm)
    refine Tot.eq rfl rfl ?_ ?_ rfl <;> simp [Tot.add,tot]
theorem storyN_back (f : List Ev) : ∀ i,i ≤ f.length → storyN f i = backL (f.drop (f.length - i))
 | 0,_ => by simp [storyN,backL]
 | i + 1,h => by
  have hi : f.length - (i + 1) < f.length := by exact ω1 [] [_,_,_] (.Lt ν0 ν1) (.Eq (.a ν0 (.a ν2 (.n 1))) ν1) (Nat.sub_add_cancel (ω1 [] [_,_] (.Le (.a ν0 (.n 1)) ν1) (.Le (.a ν0 (.n 1)) ν1) h rfl)) rfl
  rw [storyN,storyN_back f i (by exact ω1 [] [_,_] (.Le ν0 ν1) (.Le (.a ν0 (.n 1)) ν1) h rfl),List.drop_eq_getElem_cons hi]
  have e1 : f.length - (i + 1) + 1 = f.length - i := by exact η2 [] [_,_,_,_] (.Eq (.a ν0 (.n 1)) ν1) (.Eq (.a ν0 (.a ν2 (.n 1))) ν3) (.Eq (.a ν1 ν2) ν3) [1,-1,1] [1,1,-1] (Nat.sub_add_cancel (ω1 [] [_,_] (.Le (.a ν0 (.n 1)) ν1) (.Le (.a ν0 (.n 1)) ν1) h rfl)) (Nat.sub_add_cancel (ω1 [] [_,_] (.Le ν0 ν1) (.Le (.a ν0 (.n 1)) ν1) h rfl)) rfl
  rw [e1,backL]
  have e2 : evAt f i = f[f.length - (i + 1)] := by
   unfold evAt
   rw [if_pos (by exact ω1 [] [_,_] (.le (.n 0) (.a (.s (.c ν0) (.n 1)) (.r (.c ν1) (-1)))) (.Le (.a ν1 (.n 1)) ν0) h rfl)]
   have : ((f.length : Int) - 1 + (i : Int) * (-1)).toNat = f.length - (i + 1) := by exact η3 [] [_,_,_,_] (.Eq ν0 ν1) (.Eq (.a ν1 (.a ν2 (.n 1))) ν3) (.eq (.c ν0) (.a (.s (.c ν3) (.n 1)) (.r (.c ν2) (-1)))) (.le (.a (.s (.c ν3) (.n 1)) (.r (.c ν2) (-1))) (.c ν0)) [1,1,0,1] [1,-1,1,0] (Nat.sub_add_cancel (ω1 [] [_,_] (.Le (.a ν0 (.n 1)) ν1) (.Le (.a ν0 (.n 1)) ν1) h rfl)) (Int.toNat_of_nonneg (ω1 [] [_,_] (.le (.n 0) (.a (.s (.c ν0) (.n 1)) (.r (.c ν1) (-1)))) (.Le (.a ν1 (.n 1)) ν0) h rfl)) (Int.self_le_toNat _) rfl
   rw [this,List.getD_eq_getElem?_getD,List.getElem?_eq_getElem hi];rfl
  rw [e2]
theorem story_fwd (f : List Ev) (hk : ∀ e ∈ f,-2 ≤ e.1 ∧ e.1 < 256) : tot (storyF f) = fwd f false [] := by
 rw [(fwd_story f hk).1]
 unfold storyF
 rw [storyN,storyN_back f f.length (Nat.le_refl _)]
 have e1 : f.length - f.length = 0 := by exact Nat.le_antisymm (ω1 [] [_,_] (.Le ν0 (.n 0)) (.Eq (.a ν0 ν1) ν1) (Nat.sub_add_cancel (Nat.le_refl _)) rfl) (Nat.zero_le _)
 rw [e1,List.drop_zero]
 have e2 : evAt f f.length = (-3,[],0) := by unfold evAt;rw [if_neg (by exact κ0 [] [_] (.nle (.n 0) (.a (.s (.c ν0) (.n 1)) (.r (.c ν0) (-1)))) [1] rfl)]
 rw [e2]
 rfl
inductive Rem (d : Y) (block check : Int) : Int → Int → Bool → List Ev → Bool → Prop
 | fin {a b a' b' : Int} {s s' tn : Bool} (h : ∀ R : RS,R.at_ = a → R.be = b → R.short = s → fragF d block check R = ((-1,[]),{ R with at_ := a',be := b',short := s',torn := R.torn || tn }))
   (h2 : ∀ R : RS,R.at_ = a' → R.be = b' → R.short = s' → fragF d block check R = ((-1,[]),R)) : Rem d block check a b s [] tn
 | good {a b b' : Int} {s s' tn : Bool} {e : Ev} {es : List Ev} (hk : 0 ≤ e.1) (h : ∀ R : RS,R.at_ = a → R.be = b → R.short = s → fragF d block check R = ((e.1,e.2.1),{ R with at_ := e.2.2,be := b',short := s' }))
   (hr : Rem d block check e.2.2 b' s' es tn) : Rem d block check a b s (e :: es) tn
 | bad {a b a' b' : Int} {s s' tn : Bool} {e : Ev} {es : List Ev} (hk : e.1 = -1) (h : ∀ R : RS,R.at_ = a → R.be = b → R.short = s → ∃ w,fragF d block check R = ((-2,[]),{ R with at_ := a',be := b',short := s',skipped := R.skipped + ln e.2.1,reasons := R.reasons ++ [w],breaks := R.breaks + 1 }))
   (hr : Rem d block check a' b' s' es tn) : Rem d block check a b s (e :: es) tn
 | zero {a b a' b' : Int} {s s' tn : Bool} {e : Ev} {es : List Ev} (hk : e.1 = -2) (hy : e.2.1 = []) (h : ∀ R : RS,R.at_ = a → R.be = b → R.short = s → fragF d block check R = ((-2,[]),{ R with at_ := a',be := b',short := s',breaks := R.breaks + 1 }))
   (hr : Rem d block check a' b' s' es tn) : Rem d block check a b s (e :: es) tn
theorem ϰae {d : Y} {block check : Int} {n : Nat} {b : Bool} {p : Y} {R : RS} {r : Option Y × RS} {k : Int} {y : Y} {R1 : RS} (e : fragF d block check R = ((k,y),R1)) (q : readS b p k y R1 = .inl r) : readF d block check (n + 1) b p R = some r := by
 simp only [readF,e,q]
theorem ϱF {d : Y} {block check : Int} {n : Nat} {b b' : Bool} {p p' : Y} {R R' : RS} {k : Int} {y : Y} {R1 : RS} (e : fragF d block check R = ((k,y),R1)) (q : readS b p k y R1 = .inr (b',p',R')) : readF d block check (n + 1) b p R = readF d block check n b' p' R' := by
 simp only [readF,e,q]
noncomputable def Out (d : Y) (block check : Int) (R R1 : RS) (o : Option Y) (t : Tot) (m : Nat) (tn : Bool) : Prop :=
 match o with
 | none => t.recs = [] ∧ R1.skipped = R.skipped + t.lost ∧ (R1.reasons.length : Int) = R.reasons.length + t.whys ∧ R1.breaks = R.breaks + t.breaks ∧ R1.torn = (R.torn || tn || t.oe) ∧ fragF d block check R1 = ((-1,[]),R1)
 | some y => ∃ es' : List Ev,es'.length < m ∧ Rem d block check R1.at_ R1.be R1.short es' tn ∧ R1.torn = R.torn ∧ t = ((fwd es' false []).rc (y,R1.good)).add (R1.skipped - R.skipped) ((R1.reasons.length : Int) - R.reasons.length) (R1.breaks - R.breaks)
theorem Out.more {d : Y} {block check : Int} {R R0 R1 : RS} {o : Option Y} {t t0 : Tot} {m m0 : Nat} {tn : Bool} (h : Out d block check R R1 o t m tn) (hm : m ≤ m0) (ht : R0.torn = R.torn)
  (e : t0 = t.add (R.skipped - R0.skipped) ((R.reasons.length : Int) - R0.reasons.length) (R.breaks - R0.breaks)) : Out d block check R0 R1 o t0 m0 tn := by
 subst e
 cases o with
 | none =>
  obtain ⟨h1,h2,h3,h4,h5,h6⟩ := h
  refine ⟨h1,?_,?_,?_,?_,h6⟩
  ·simp only [Tot.add];exact η1 [_,_,_,_] [] (.eq ξ0 (.a ξ1 (.a ξ2 (.s ξ3 ξ1)))) (.eq ξ0 (.a ξ3 ξ2)) [1,-1] [1,1] h2 rfl
  ·simp only [Tot.add];exact η1 [_] [_,_,_] (.eq (.c ν0) (.a (.c ν1) (.a ξ0 (.s (.c ν2) (.c ν1))))) (.eq (.c ν0) (.a (.c ν2) ξ0)) [1,-1] [1,1] h3 rfl
  ·simp only [Tot.add];exact η1 [_,_,_,_] [] (.eq ξ0 (.a ξ1 (.a ξ2 (.s ξ3 ξ1)))) (.eq ξ0 (.a ξ3 ξ2)) [1,-1] [1,1] h4 rfl
  ·rw [h5,ht];rfl
 | some y =>
  obtain ⟨es',h1,h2,h3,h4⟩ := h
  refine ⟨es',Nat.lt_of_lt_of_le h1 hm,h2,h3.trans ht.symm,?_⟩
  rw [h4]
  refine Tot.eq rfl ?_ ?_ ?_ rfl <;> simp only [Tot.add,Tot.rc] <;> (first | exact Int.le_antisymm (κ0 [_,_,_,_] [] (.le (.a (.a ξ0 (.s ξ1 ξ2)) (.s ξ2 ξ3)) (.a ξ0 (.s ξ1 ξ3))) [1] rfl) (κ0 [_,_,_,_] [] (.le (.a ξ0 (.s ξ1 ξ2)) (.a (.a ξ0 (.s ξ1 ξ3)) (.s ξ3 ξ2))) [1] rfl) | exact Int.le_antisymm (κ0 [_] [_,_,_] (.le (.a (.a ξ0 (.s (.c ν0) (.c ν1))) (.s (.c ν1) (.c ν2))) (.a ξ0 (.s (.c ν0) (.c ν2)))) [1] rfl) (κ0 [_] [_,_,_] (.le (.a ξ0 (.s (.c ν0) (.c ν1))) (.a (.a ξ0 (.s (.c ν0) (.c ν2))) (.s (.c ν2) (.c ν1)))) [1] rfl))
theorem read_rem {d : Y} {block check : Int} (hd : Byt d) : ∀ {a b : Int} {s : Bool} {es : List Ev} {tn : Bool},Rem d block check a b s es tn → ∀ (R : RS) (bg : Bool) (p : Y),R.at_ = a → R.be = b → R.short = s → RInv d block R → (bg = false → p = []) →
  ∃ n o R1,n ≤ es.length + 1 ∧ readF d block check n bg p R = some (o,R1) ∧ RInv d block R1 ∧ R1.reasons.length ≤ R.reasons.length + 3 * (es.length + 1) ∧ Out d block check R R1 o (fwd es bg p) es.length tn := by
 intro a b s es tn h
 induction h with
 | fin h h2 =>
  rename_i a b a' b' s s' tn
  intro R bg p ha hb hs hi hp
  have e := h R ha hb hs
  have hi' := (ϰar (check := check) hi hd).inv
  rw [e] at hi'
  cases bg with
  | true =>
   refine ⟨1,none,_,Nat.le_refl _,ϰae e (rs1 rfl rfl),⟨hi'.a0,hi'.a1,hi'.a2,hi'.sz,hi'.bl,hi'.bh⟩,by dsimp only;exact κ0 [] [_,_] (.Le ν0 (.a ν0 (.m 3 (.a ν1 (.n 1))))) [1] rfl,rfl,by simp [fwd],by simp [fwd],by simp [fwd],by simp [fwd],?_⟩
   exact h2 _ rfl rfl rfl
  | false =>
   refine ⟨1,none,_,Nat.le_refl _,ϰae e (rs2 rfl rfl),hi',by dsimp only;exact κ0 [] [_,_] (.Le ν0 (.a ν0 (.m 3 (.a ν1 (.n 1))))) [1] rfl,rfl,by simp [fwd],by simp [fwd],by simp [fwd],by simp [fwd],?_⟩
   exact h2 _ rfl rfl rfl
 | good hk h hr ih =>
  rename_i a b b' s s' tn e es
  intro R bg p ha hb hs hi hp
  have ef := h R ha hb hs
  have hi' := (ϰar (check := check) hi hd).inv
  rw [ef] at hi'
  obtain ⟨k,y,x⟩ := e
  dsimp only at hk ef hr ih hi'
  have hI : ∀ {R1 : RS},R1.at_ = x → R1.be = b' → R1.short = s' → RInv d block R1 := fun {R1} q1 q2 q3 => ⟨by rw [q1];exact hi'.a0,by rw [q1,q2];exact hi'.a1,by rw [q2];exact hi'.a2,hi'.sz,hi'.bl,hi'.bh⟩
  have go : ∀ (bg1 : Bool) (p1 : Y) (R1 : RS),R1.at_ = x → R1.be = b' → R1.short = s' → (bg1 = false → p1 = []) → R1.torn = R.torn → R1.reasons.length ≤ R.reasons.length + 1 →
    readS bg p k y { R with at_ := x,be := b',short := s' } = .inr (bg1,p1,R1) → fwd ((k,y,x) :: es) bg p = (fwd es bg1 p1).add (R1.skipped - R.skipped) ((R1.reasons.length : Int) - R.reasons.length) (R1.breaks - R.breaks) →
    ∃ n o R2,n ≤ ((k,y,x) :: es).length + 1 ∧ readF d block check n bg p R = some (o,R2) ∧ RInv d block R2 ∧ R2.reasons.length ≤ R.reasons.length + 3 * (((k,y,x) :: es).length + 1) ∧ Out d block check R R2 o (fwd ((k,y,x) :: es) bg p) ((k,y,x) :: es).length tn := by
   intro bg1 p1 R1 q1 q2 q3 hp1 ht hl hS hf
   obtain ⟨n,o,R2,hn,hrd,hi2,hl2,ho⟩ := ih R1 bg1 p1 q1 q2 q3 (hI q1 q2 q3) hp1
   refine ⟨n + 1,o,R2,by simp only [List.length_cons];omega,(ϱF ef hS).trans hrd,hi2,by simp only [List.length_cons];omega,ho.more (by simp) ht.symm hf⟩
  have stop : ∀ (y1 : Y) (R1 : RS),R1.at_ = x → R1.be = b' → R1.short = s' → R1.torn = R.torn → R1.reasons.length ≤ R.reasons.length + 1 → readS bg p k y { R with at_ := x,be := b',short := s' } = .inl (some y1,R1) →
    fwd ((k,y,x) :: es) bg p = ((fwd es false []).rc (y1,R1.good)).add (R1.skipped - R.skipped) ((R1.reasons.length : Int) - R.reasons.length) (R1.breaks - R.breaks) →
    ∃ n o R2,n ≤ ((k,y,x) :: es).length + 1 ∧ readF d block check n bg p R = some (o,R2) ∧ RInv d block R2 ∧ R2.reasons.length ≤ R.reasons.length + 3 * (((k,y,x) :: es).length + 1) ∧ Out d block check R R2 o (fwd ((k,y,x) :: es) bg p) ((k,y,x) :: es).length tn := by
   intro y1 R1 q1 q2 q3 ht hl hS hf
   refine ⟨1,some y1,R1,by simp,ϰae ef hS,hI q1 q2 q3,by simp only [List.length_cons];exact ω1 [] [_,_,_] (.Le ν0 (.a ν1 (.m 3 (.a (.a ν2 (.n 1)) (.n 1))))) (.Le ν0 (.a ν1 (.n 1))) hl rfl,es,by simp,by rw [q1,q2,q3];exact hr,ht,hf⟩
  by_cases h1 : k = 1
  ·cases bg with
   | true =>
    by_cases hp0 : 0 < (p.length : Int)
    ·refine stop y _ ?_ ?_ ?_ ?_ ?_ (rs3 h1 rfl hp0) ?_ <;> (try rfl)
     ·simp [dropF]
     ·rw [h1]
      have hm1 : mnF 1 (p.length : Int) = 1 := by unfold mnF;split <;> (first | exact Int.le_antisymm (ω1 [] [_] (.le (.c ν0) (.n 1)) (.lt (.c ν0) (.n 1)) (by assumption) rfl) (ω1 [] [_] (.le (.n 1) (.c ν0)) (.lt (.n 0) (.c ν0)) hp0 rfl) | exact Int.le_antisymm (κ0 [] [] (.le (.n 1) (.n 1)) [1] rfl) (κ0 [] [] (.le (.n 1) (.n 1)) [1] rfl))
      refine Tot.eq ?_ ?_ ?_ ?_ ?_ <;> simp [fwd,Tot.add,Tot.rc,dropF,ln,hm1] <;> (first | exact Int.le_antisymm (κ0 [_] [_] (.le (.c ν0) (.s (.a ξ0 (.c ν0)) ξ0)) [1] rfl) (κ0 [_] [_] (.le (.s (.a ξ0 (.c ν0)) ξ0) (.c ν0)) [1] rfl) | exact Int.le_antisymm (κ0 [] [_] (.le (.n 1) (.s (.a (.c ν0) (.n 1)) (.c ν0))) [1] rfl) (κ0 [] [_] (.le (.s (.a (.c ν0) (.n 1)) (.c ν0)) (.n 1)) [1] rfl) | exact Int.le_antisymm (κ0 [_] [] (.le (.n 1) (.s (.a ξ0 (.n 1)) ξ0)) [1] rfl) (κ0 [_] [] (.le (.s (.a ξ0 (.n 1)) ξ0) (.n 1)) [1] rfl))
    ·have e0 : p.length = 0 := by exact Nat.le_antisymm (ω1 [] [_] (.Le ν0 (.n 0)) (.nlt (.n 0) (.c ν0)) hp0 rfl) (Nat.zero_le _)
     refine stop y _ ?_ ?_ ?_ ?_ ?_ (rs4 h1 rfl hp0) ?_ <;> (try rfl)
     ·simp
     ·rw [h1]
      have hm0 : mnF 1 0 = 0 := by decide
      refine Tot.eq ?_ ?_ ?_ ?_ ?_ <;> simp [fwd,Tot.add,Tot.rc,ln,e0,hm0] <;> exact η0 [_] [] (.eq (.n 1) (.s (.a ξ0 (.n 1)) ξ0)) [1] [1] rfl
   | false =>
    refine stop y _ ?_ ?_ ?_ ?_ ?_ (rs5 h1 rfl) ?_ <;> (try rfl)
    ·simp
    ·rw [h1]
     refine Tot.eq ?_ ?_ ?_ ?_ ?_ <;> simp [fwd,Tot.add,Tot.rc] <;> omega
  by_cases h2 : k = 2
  ·cases bg with
   | true =>
    by_cases hp0 : 0 < (p.length : Int)
    ·refine go true y _ ?_ ?_ ?_ (by simp) ?_ ?_ (rs6 h2 rfl hp0) ?_ <;> (try rfl)
     ·simp [dropF]
     ·rw [h2]
      have hm1 : mnF 1 (p.length : Int) = 1 := by unfold mnF;split <;> (first | exact Int.le_antisymm (ω1 [] [_] (.le (.c ν0) (.n 1)) (.lt (.c ν0) (.n 1)) (by assumption) rfl) (ω1 [] [_] (.le (.n 1) (.c ν0)) (.lt (.n 0) (.c ν0)) hp0 rfl) | exact Int.le_antisymm (κ0 [] [] (.le (.n 1) (.n 1)) [1] rfl) (κ0 [] [] (.le (.n 1) (.n 1)) [1] rfl))
      refine Tot.eq ?_ ?_ ?_ ?_ ?_ <;> simp [fwd,Tot.add,Tot.rc,dropF,ln,hm1] <;> (first | exact Int.le_antisymm (κ0 [_] [_] (.le (.c ν0) (.s (.a ξ0 (.c ν0)) ξ0)) [1] rfl) (κ0 [_] [_] (.le (.s (.a ξ0 (.c ν0)) ξ0) (.c ν0)) [1] rfl) | exact Int.le_antisymm (κ0 [] [_] (.le (.n 1) (.s (.a (.c ν0) (.n 1)) (.c ν0))) [1] rfl) (κ0 [] [_] (.le (.s (.a (.c ν0) (.n 1)) (.c ν0)) (.n 1)) [1] rfl) | exact Int.le_antisymm (κ0 [_] [] (.le (.n 1) (.s (.a ξ0 (.n 1)) ξ0)) [1] rfl) (κ0 [_] [] (.le (.s (.a ξ0 (.n 1)) ξ0) (.n 1)) [1] rfl))
    ·have e0 : p.length = 0 := by exact Nat.le_antisymm (ω1 [] [_] (.Le ν0 (.n 0)) (.nlt (.n 0) (.c ν0)) hp0 rfl) (Nat.zero_le _)
     refine go true y _ ?_ ?_ ?_ (by simp) ?_ ?_ (rs7 h2 rfl hp0) ?_ <;> (try rfl)
     ·simp
     ·rw [h2]
      have hm0 : mnF 1 0 = 0 := by decide
      refine Tot.eq ?_ ?_ ?_ ?_ ?_ <;> simp [fwd,Tot.add,Tot.rc,ln,e0,hm0] <;> exact η0 [_] [] (.eq (.n 1) (.s (.a ξ0 (.n 1)) ξ0)) [1] [1] rfl
   | false =>
    refine go true y _ ?_ ?_ ?_ (by simp) ?_ ?_ (rs8 h2 rfl) ?_ <;> (try rfl)
    ·simp
    ·rw [h2]
     refine Tot.eq ?_ ?_ ?_ ?_ ?_ <;> simp [fwd,Tot.add,Tot.rc] <;> omega
  by_cases h34 : k = 3 ∨ k = 4
  ·cases bg with
   | false =>
    have hp' := hp rfl
    subst hp'
    refine go false [] _ ?_ ?_ ?_ (by simp) ?_ ?_ (rs9 h34 rfl) ?_ <;> (try rfl)
    ·simp [dropF]
    ·rcases h34 with h3 | h3 <;> (rw [h3];refine Tot.eq ?_ ?_ ?_ ?_ ?_ <;> simp [fwd,Tot.add,Tot.rc,dropF,ln] <;> (first | exact Int.le_antisymm (κ0 [_] [_] (.le (.c ν0) (.s (.a ξ0 (.c ν0)) ξ0)) [1] rfl) (κ0 [_] [_] (.le (.s (.a ξ0 (.c ν0)) ξ0) (.c ν0)) [1] rfl) | exact Int.le_antisymm (κ0 [] [_] (.le (.n 1) (.s (.a (.c ν0) (.n 1)) (.c ν0))) [1] rfl) (κ0 [] [_] (.le (.s (.a (.c ν0) (.n 1)) (.c ν0)) (.n 1)) [1] rfl) | exact Int.le_antisymm (κ0 [_] [] (.le (.n 1) (.s (.a ξ0 (.n 1)) ξ0)) [1] rfl) (κ0 [_] [] (.le (.s (.a ξ0 (.n 1)) ξ0) (.n 1)) [1] rfl)))
   | true =>
    rcases h34 with h3 | h4
    ·refine go true (p ++ y) _ ?_ ?_ ?_ (by simp) ?_ ?_ (rs11 h3 rfl) ?_ <;> (try rfl)
     ·simp
     ·rw [h3]
      refine Tot.eq ?_ ?_ ?_ ?_ ?_ <;> simp [fwd,Tot.add,Tot.rc] <;> omega
    ·refine stop (p ++ y) _ ?_ ?_ ?_ ?_ ?_ (rs10 h4 rfl) ?_ <;> (try rfl)
     ·simp
     ·rw [h4]
      refine Tot.eq ?_ ?_ ?_ ?_ ?_ <;> simp [fwd,Tot.add,Tot.rc] <;> omega
  ·have h3 : k ≠ 3 := fun q => h34 (.inl q)
   have h4 : k ≠ 4 := fun q => h34 (.inr q)
   have hm1 : k ≠ -1 := by exact fun hq => δF hk hq rfl
   have hm2 : k ≠ -2 := by exact fun hq => δF hk hq rfl
   refine go false [] _ ?_ ?_ ?_ (by simp) ?_ ?_ (rs14 hm1 hm2 h1 h2 h3 h4) ?_ <;> (try rfl)
   ·simp [dropF]
   ·cases bg with
    | true => refine Tot.eq ?_ ?_ ?_ ?_ ?_ <;> simp [fwd,Tot.add,Tot.rc,dropF,ln,h1,h2,h3,h4,hm1,hm2] <;> (first | exact Int.le_antisymm (κ0 [_] [_,_] (.le (.a (.c ν0) (.c ν1)) (.s (.a ξ0 (.a (.c ν0) (.c ν1))) ξ0)) [1] rfl) (κ0 [_] [_,_] (.le (.s (.a ξ0 (.a (.c ν0) (.c ν1))) ξ0) (.a (.c ν0) (.c ν1))) [1] rfl) | exact Int.le_antisymm (κ0 [] [_] (.le (.n 1) (.s (.a (.c ν0) (.n 1)) (.c ν0))) [1] rfl) (κ0 [] [_] (.le (.s (.a (.c ν0) (.n 1)) (.c ν0)) (.n 1)) [1] rfl) | exact Int.le_antisymm (κ0 [_] [] (.le (.n 1) (.s (.a ξ0 (.n 1)) ξ0)) [1] rfl) (κ0 [_] [] (.le (.s (.a ξ0 (.n 1)) ξ0) (.n 1)) [1] rfl))
    | false =>
     have hp' := hp rfl
     subst hp'
     refine Tot.eq ?_ ?_ ?_ ?_ ?_ <;> simp [fwd,Tot.add,Tot.rc,dropF,ln,h1,h2,h3,h4,hm1,hm2] <;> (first | exact Int.le_antisymm (κ0 [_] [_] (.le (.c ν0) (.s (.a ξ0 (.c ν0)) ξ0)) [1] rfl) (κ0 [_] [_] (.le (.s (.a ξ0 (.c ν0)) ξ0) (.c ν0)) [1] rfl) | exact Int.le_antisymm (κ0 [] [_] (.le (.n 1) (.s (.a (.c ν0) (.n 1)) (.c ν0))) [1] rfl) (κ0 [] [_] (.le (.s (.a (.c ν0) (.n 1)) (.c ν0)) (.n 1)) [1] rfl) | exact Int.le_antisymm (κ0 [_] [] (.le (.n 1) (.s (.a ξ0 (.n 1)) ξ0)) [1] rfl) (κ0 [_] [] (.le (.s (.a ξ0 (.n 1)) ξ0) (.n 1)) [1] rfl))
 | bad hk h hr ih =>
  rename_i a b a' b' s s' tn e es
  intro R bg p ha hb hs hi hp
  obtain ⟨w,ef⟩ := h R ha hb hs
  have hi' := (ϰar (check := check) hi hd).inv
  rw [ef] at hi'
  obtain ⟨k,y,x⟩ := e
  dsimp only at hk ef hr ih hi'
  subst hk
  cases bg with
  | true =>
   have hS := rs12 (b := true) (p := p) (y := []) (k := -2) (R := { R with at_ := a',be := b',short := s',skipped := R.skipped + ln y,reasons := R.reasons ++ [w],breaks := R.breaks + 1 }) rfl rfl
   obtain ⟨n,o,R2,hn,hrd,hi2,hl2,ho⟩ := ih (dropF { R with at_ := a',be := b',short := s',skipped := R.skipped + ln y,reasons := R.reasons ++ [w],breaks := R.breaks + 1 } p.length (.str "error in the middle of a record")) false [] rfl rfl rfl ⟨hi'.a0,hi'.a1,hi'.a2,hi'.sz,hi'.bl,hi'.bh⟩ (by simp)
   refine ⟨n + 1,o,R2,by simp only [List.length_cons];exact ω1 [] [_,_] (.Le (.a ν0 (.n 1)) (.a (.a ν1 (.n 1)) (.n 1))) (.Le ν0 (.a ν1 (.n 1))) hn rfl,(ϱF ef hS).trans hrd,hi2,by simp [dropF] at hl2;simp only [List.length_cons];exact ω1 [] [_,_,_] (.Le ν0 (.a ν1 (.m 3 (.a (.a ν2 (.n 1)) (.n 1))))) (.Le ν0 (.a (.a ν1 (.n 2)) (.m 3 (.a ν2 (.n 1))))) hl2 rfl,ho.more (by simp) rfl ?_⟩
   refine Tot.eq ?_ ?_ ?_ ?_ ?_ <;> simp [fwd,Tot.add,Tot.rc,dropF,ln] <;> (first | exact Int.le_antisymm (κ0 [_] [_,_] (.le (.a (.c ν0) (.c ν1)) (.s (.a (.a ξ0 (.c ν0)) (.c ν1)) ξ0)) [1] rfl) (κ0 [_] [_,_] (.le (.s (.a (.a ξ0 (.c ν0)) (.c ν1)) ξ0) (.a (.c ν0) (.c ν1))) [1] rfl) | exact Int.le_antisymm (κ0 [] [_] (.le (.n 2) (.s (.a (.c ν0) (.n 2)) (.c ν0))) [1] rfl) (κ0 [] [_] (.le (.s (.a (.c ν0) (.n 2)) (.c ν0)) (.n 2)) [1] rfl) | exact Int.le_antisymm (κ0 [_] [] (.le (.n 1) (.s (.a ξ0 (.n 1)) ξ0)) [1] rfl) (κ0 [_] [] (.le (.s (.a ξ0 (.n 1)) ξ0) (.n 1)) [1] rfl))
  | false =>
   have hp' := hp rfl
   subst hp'
   have hS := rs13 (b := false) (p := []) (y := []) (k := -2) (R := { R with at_ := a',be := b',short := s',skipped := R.skipped + ln y,reasons := R.reasons ++ [w],breaks := R.breaks + 1 }) rfl rfl
   obtain ⟨n,o,R2,hn,hrd,hi2,hl2,ho⟩ := ih { R with at_ := a',be := b',short := s',skipped := R.skipped + ln y,reasons := R.reasons ++ [w],breaks := R.breaks + 1 } false [] rfl rfl rfl hi' (by simp)
   refine ⟨n + 1,o,R2,by simp only [List.length_cons];exact ω1 [] [_,_] (.Le (.a ν0 (.n 1)) (.a (.a ν1 (.n 1)) (.n 1))) (.Le ν0 (.a ν1 (.n 1))) hn rfl,(ϱF ef hS).trans hrd,hi2,by simp at hl2;simp only [List.length_cons];exact ω1 [] [_,_,_] (.Le ν0 (.a ν1 (.m 3 (.a (.a ν2 (.n 1)) (.n 1))))) (.Le ν0 (.a (.a ν1 (.n 1)) (.m 3 (.a ν2 (.n 1))))) hl2 rfl,ho.more (by simp) rfl ?_⟩
   refine Tot.eq ?_ ?_ ?_ ?_ ?_ <;> simp [fwd,Tot.add,Tot.rc,ln] <;> (first | exact Int.le_antisymm (κ0 [_] [_] (.le (.c ν0) (.s (.a ξ0 (.c ν0)) ξ0)) [1] rfl) (κ0 [_] [_] (.le (.s (.a ξ0 (.c ν0)) ξ0) (.c ν0)) [1] rfl) | exact Int.le_antisymm (κ0 [] [_] (.le (.n 1) (.s (.a (.c ν0) (.n 1)) (.c ν0))) [1] rfl) (κ0 [] [_] (.le (.s (.a (.c ν0) (.n 1)) (.c ν0)) (.n 1)) [1] rfl) | exact Int.le_antisymm (κ0 [_] [] (.le (.n 1) (.s (.a ξ0 (.n 1)) ξ0)) [1] rfl) (κ0 [_] [] (.le (.s (.a ξ0 (.n 1)) ξ0) (.n 1)) [1] rfl))
 | zero hk hy h hr ih =>
  rename_i a b a' b' s s' tn e es
  intro R bg p ha hb hs hi hp
  have ef := h R ha hb hs
  have hi' := (ϰar (check := check) hi hd).inv
  rw [ef] at hi'
  obtain ⟨k,y,x⟩ := e
  dsimp only at hk hy ef hr ih hi'
  subst hk hy
  cases bg with
  | true =>
   have hS := rs12 (b := true) (p := p) (y := []) (k := -2) (R := { R with at_ := a',be := b',short := s',breaks := R.breaks + 1 }) rfl rfl
   obtain ⟨n,o,R2,hn,hrd,hi2,hl2,ho⟩ := ih (dropF { R with at_ := a',be := b',short := s',breaks := R.breaks + 1 } p.length (.str "error in the middle of a record")) false [] rfl rfl rfl ⟨hi'.a0,hi'.a1,hi'.a2,hi'.sz,hi'.bl,hi'.bh⟩ (by simp)
   refine ⟨n + 1,o,R2,by simp only [List.length_cons];exact ω1 [] [_,_] (.Le (.a ν0 (.n 1)) (.a (.a ν1 (.n 1)) (.n 1))) (.Le ν0 (.a ν1 (.n 1))) hn rfl,(ϱF ef hS).trans hrd,hi2,by simp [dropF] at hl2;simp only [List.length_cons];exact ω1 [] [_,_,_] (.Le ν0 (.a ν1 (.m 3 (.a (.a ν2 (.n 1)) (.n 1))))) (.Le ν0 (.a (.a ν1 (.n 1)) (.m 3 (.a ν2 (.n 1))))) hl2 rfl,ho.more (by simp) rfl ?_⟩
   refine Tot.eq ?_ ?_ ?_ ?_ ?_ <;> simp [fwd,Tot.add,Tot.rc,dropF,ln] <;> (first | exact Int.le_antisymm (κ0 [_] [_] (.le (.c ν0) (.s (.a ξ0 (.c ν0)) ξ0)) [1] rfl) (κ0 [_] [_] (.le (.s (.a ξ0 (.c ν0)) ξ0) (.c ν0)) [1] rfl) | exact Int.le_antisymm (κ0 [] [_] (.le (.n 1) (.s (.a (.c ν0) (.n 1)) (.c ν0))) [1] rfl) (κ0 [] [_] (.le (.s (.a (.c ν0) (.n 1)) (.c ν0)) (.n 1)) [1] rfl) | exact Int.le_antisymm (κ0 [_] [] (.le (.n 1) (.s (.a ξ0 (.n 1)) ξ0)) [1] rfl) (κ0 [_] [] (.le (.s (.a ξ0 (.n 1)) ξ0) (.n 1)) [1] rfl))
  | false =>
   have hp' := hp rfl
   subst hp'
   have hS := rs13 (b := false) (p := []) (y := []) (k := -2) (R := { R with at_ := a',be := b',short := s',breaks := R.breaks + 1 }) rfl rfl
   obtain ⟨n,o,R2,hn,hrd,hi2,hl2,ho⟩ := ih { R with at_ := a',be := b',short := s',breaks := R.breaks + 1 } false [] rfl rfl rfl hi' (by simp)
   refine ⟨n + 1,o,R2,by simp only [List.length_cons];exact ω1 [] [_,_] (.Le (.a ν0 (.n 1)) (.a (.a ν1 (.n 1)) (.n 1))) (.Le ν0 (.a ν1 (.n 1))) hn rfl,(ϱF ef hS).trans hrd,hi2,by dsimp only at hl2;simp only [List.length_cons];exact ω1 [] [_,_,_] (.Le ν0 (.a ν1 (.m 3 (.a (.a ν2 (.n 1)) (.n 1))))) (.Le ν0 (.a ν1 (.m 3 (.a ν2 (.n 1))))) hl2 rfl,ho.more (by simp) rfl ?_⟩
   refine Tot.eq ?_ ?_ ?_ ?_ ?_ <;> simp [fwd,Tot.add,Tot.rc,ln] <;> exact η0 [_] [] (.eq (.n 1) (.s (.a ξ0 (.n 1)) ξ0)) [1] [1] rfl
theorem ϰaR : ∀ (es : List Ev) (b : Bool) (p : Y),0 ≤ (fwd es b p).whys ∧ (fwd es b p).whys ≤ 2 * (es.length : Int)
 | [],b,p => by simp [fwd]
 | e :: es,b,p => by
  have h0 := ϰaR es false []
  have h1 := ϰaR es true e.2.1
  have h2 := ϰaR es true (p ++ e.2.1)
  have hm : 0 ≤ mnF 1 (ln p) ∧ mnF 1 (ln p) ≤ 1 := by unfold mnF ln;split <;> (first | exact ⟨κ0 [] [_] (.le (.n 0) (.c ν0)) [1] rfl,ω1 [] [_] (.le (.c ν0) (.n 1)) (.lt (.c ν0) (.n 1)) (by assumption) rfl⟩ | exact ⟨κ0 [] [] (.le (.n 0) (.n 1)) [1] rfl,κ0 [] [] (.le (.n 1) (.n 1)) [1] rfl⟩)
  simp only [List.length_cons]
  by_cases k1 : e.1 = 1
  ·cases b <;> simp [fwd,k1,Tot.add,Tot.rc] <;> (first | exact ⟨ω1 [_] [] (.le (.n 0) ξ0) (.le (.n 0) ξ0) h0.1 rfl,ω1 [_] [_] (.le ξ0 (.m 2 (.a (.c ν0) (.n 1)))) (.le ξ0 (.m 2 (.c ν0))) h0.2 rfl⟩ | exact ⟨ω2 [_,_] [] (.le (.n 0) (.a ξ0 ξ1)) (.le (.n 0) ξ1) (.le (.n 0) ξ0) hm.1 h0.1 rfl,ω2 [_,_] [_] (.le (.a ξ0 ξ1) (.m 2 (.a (.c ν0) (.n 1)))) (.le ξ1 (.n 1)) (.le ξ0 (.m 2 (.c ν0))) hm.2 h0.2 rfl⟩)
  by_cases k2 : e.1 = 2
  ·cases b <;> simp [fwd,k2,Tot.add,Tot.rc] <;> (first | exact ⟨ω1 [_] [] (.le (.n 0) ξ0) (.le (.n 0) ξ0) h1.1 rfl,ω1 [_] [_] (.le ξ0 (.m 2 (.a (.c ν0) (.n 1)))) (.le ξ0 (.m 2 (.c ν0))) h1.2 rfl⟩ | exact ⟨ω2 [_,_] [] (.le (.n 0) (.a ξ0 ξ1)) (.le (.n 0) ξ1) (.le (.n 0) ξ0) hm.1 h1.1 rfl,ω2 [_,_] [_] (.le (.a ξ0 ξ1) (.m 2 (.a (.c ν0) (.n 1)))) (.le ξ1 (.n 1)) (.le ξ0 (.m 2 (.c ν0))) hm.2 h1.2 rfl⟩)
  by_cases k3 : e.1 = 3
  ·cases b <;> simp [fwd,k3,Tot.add,Tot.rc] <;> (first | exact ⟨ω1 [_] [] (.le (.n 0) (.a ξ0 (.n 1))) (.le (.n 0) ξ0) h0.1 rfl,ω1 [_] [_] (.le (.a ξ0 (.n 1)) (.m 2 (.a (.c ν0) (.n 1)))) (.le ξ0 (.m 2 (.c ν0))) h0.2 rfl⟩ | exact ⟨ω1 [_] [] (.le (.n 0) ξ0) (.le (.n 0) ξ0) h2.1 rfl,ω1 [_] [_] (.le ξ0 (.m 2 (.a (.c ν0) (.n 1)))) (.le ξ0 (.m 2 (.c ν0))) h2.2 rfl⟩)
  by_cases k4 : e.1 = 4
  ·cases b <;> simp [fwd,k4,Tot.add,Tot.rc] <;> (first | exact ⟨ω1 [_] [] (.le (.n 0) (.a ξ0 (.n 1))) (.le (.n 0) ξ0) h0.1 rfl,ω1 [_] [_] (.le (.a ξ0 (.n 1)) (.m 2 (.a (.c ν0) (.n 1)))) (.le ξ0 (.m 2 (.c ν0))) h0.2 rfl⟩ | exact ⟨ω1 [_] [] (.le (.n 0) ξ0) (.le (.n 0) ξ0) h0.1 rfl,ω1 [_] [_] (.le ξ0 (.m 2 (.a (.c ν0) (.n 1)))) (.le ξ0 (.m 2 (.c ν0))) h0.2 rfl⟩)
  by_cases k5 : e.1 = -2
  ·cases b <;> simp [fwd,k5,Tot.add,Tot.rc] <;> (first | exact ⟨ω1 [_] [] (.le (.n 0) ξ0) (.le (.n 0) ξ0) h0.1 rfl,ω1 [_] [_] (.le ξ0 (.m 2 (.a (.c ν0) (.n 1)))) (.le ξ0 (.m 2 (.c ν0))) h0.2 rfl⟩ | exact ⟨ω1 [_] [] (.le (.n 0) (.a ξ0 (.n 1))) (.le (.n 0) ξ0) h0.1 rfl,ω1 [_] [_] (.le (.a ξ0 (.n 1)) (.m 2 (.a (.c ν0) (.n 1)))) (.le ξ0 (.m 2 (.c ν0))) h0.2 rfl⟩)
  by_cases k6 : e.1 = -1
  ·cases b <;> simp [fwd,k6,Tot.add,Tot.rc] <;> (first | exact ⟨ω1 [_] [] (.le (.n 0) (.a ξ0 (.n 1))) (.le (.n 0) ξ0) h0.1 rfl,ω1 [_] [_] (.le (.a ξ0 (.n 1)) (.m 2 (.a (.c ν0) (.n 1)))) (.le ξ0 (.m 2 (.c ν0))) h0.2 rfl⟩ | exact ⟨ω1 [_] [] (.le (.n 0) (.a ξ0 (.n 2))) (.le (.n 0) ξ0) h0.1 rfl,ω1 [_] [_] (.le (.a ξ0 (.n 2)) (.m 2 (.a (.c ν0) (.n 1)))) (.le ξ0 (.m 2 (.c ν0))) h0.2 rfl⟩)
  ·cases b <;> simp [fwd,k1,k2,k3,k4,k5,k6,Tot.add,Tot.rc] <;> exact ⟨δJ h0.1 rfl,ω1 [_] [_] (.le (.a ξ0 (.n 1)) (.m 2 (.a (.c ν0) (.n 1)))) (.le ξ0 (.m 2 (.c ν0))) h0.2 rfl⟩
theorem reads_rem {d : Y} {block check : Int} (hd : Byt d) : ∀ (m : Nat) {es : List Ev} {tn : Bool} (R : RS),es.length = m → es.length ≤ 3000 → Rem d block check R.at_ R.be R.short es tn → RInv d block R → (R.reasons.length : Int) + (fwd es false []).whys ≤ 400000 →
  ∃ R',Reads d block check R (fwd es false []).recs R' ∧ R'.skipped = R.skipped + (fwd es false []).lost ∧ (R'.reasons.length : Int) = R.reasons.length + (fwd es false []).whys ∧ R'.breaks = R.breaks + (fwd es false []).breaks ∧ R'.torn = (R.torn || tn || (fwd es false []).oe) ∧ RInv d block R' ∧ readF d block check 1 false [] R' = some (none,R') := by
 intro m
 induction m using Nat.strongRecOn with
 | ind m ih =>
 intro es tn R hm hle hrem hi hw
 have w0 := ϰaR es false []
 obtain ⟨n,o,R1,hn,hrd,hi1,hl1,ho⟩ := read_rem hd hrem R false [] rfl rfl rfl hi (fun _ => rfl)
 cases o with
 | none =>
  obtain ⟨h1,h2,h3,h4,h5,h6⟩ := ho
  refine ⟨R1,?_,h2,h3,h4,h5,hi1,ϰae h6 (rs2 rfl rfl)⟩
  rw [h1]
  exact Reads.nil hi (by exact ω2 [_] [_] (.Le ν0 (.n 500000)) (.le (.n 0) ξ0) (.le (.a (.c ν0) ξ0) (.n 400000)) w0.1 hw rfl) (by exact ω2 [] [_,_] (.Le ν0 (.n 4000)) (.Le ν0 (.a ν1 (.n 1))) (.Le ν1 (.n 3000)) hn hle rfl) hrd
 | some y =>
  obtain ⟨es',h1,h2,h3,h4⟩ := ho
  have w1 := ϰaR es' false []
  have hwe : (fwd es false []).whys = (fwd es' false []).whys + ((R1.reasons.length : Int) - R.reasons.length) := by rw [h4];rfl
  have hle' : (fwd es false []).lost = (fwd es' false []).lost + (R1.skipped - R.skipped) := by rw [h4];rfl
  have hbe : (fwd es false []).breaks = (fwd es' false []).breaks + (R1.breaks - R.breaks) := by rw [h4];rfl
  have hoe : (fwd es false []).oe = (fwd es' false []).oe := by rw [h4];rfl
  have hre : (fwd es false []).recs = (y,R1.good) :: (fwd es' false []).recs := by rw [h4];rfl
  obtain ⟨R',r1,r2,r3,r4,r5,r6,r7⟩ := ih es'.length (by exact ω2 [] [_,_,_] (.Lt ν0 ν1) (.Lt ν0 ν2) (.Eq ν2 ν1) h1 hm rfl) R1 rfl (by exact ω2 [] [_,_] (.Le ν0 (.n 3000)) (.Lt ν0 ν1) (.Le ν1 (.n 3000)) h1 hle rfl) h2 hi1 (by exact κ2 [_,_] [_,_] (.le (.a (.c ν0) ξ0) (.n 400000)) (.eq ξ1 (.a ξ0 (.s (.c ν0) (.c ν1)))) (.le (.a (.c ν1) ξ1) (.n 400000)) [1,-1,1] hwe hw rfl)
  refine ⟨R',?_,by exact η2 [_,_,_,_,_] [] (.eq ξ0 (.a ξ1 ξ2)) (.eq ξ0 (.a ξ3 ξ4)) (.eq ξ2 (.a ξ4 (.s ξ3 ξ1))) [1,-1,1] [1,1,-1] r2 hle' rfl,by exact η2 [_,_] [_,_,_] (.eq (.c ν0) (.a (.c ν1) ξ0)) (.eq (.c ν0) (.a (.c ν2) ξ1)) (.eq ξ0 (.a ξ1 (.s (.c ν2) (.c ν1)))) [1,-1,1] [1,1,-1] r3 hwe rfl,by exact η2 [_,_,_,_,_] [] (.eq ξ0 (.a ξ1 ξ2)) (.eq ξ0 (.a ξ3 ξ4)) (.eq ξ2 (.a ξ4 (.s ξ3 ξ1))) [1,-1,1] [1,1,-1] r4 hbe rfl,by rw [r5,h3,hoe],r6,r7⟩
  rw [hre]
  exact Reads.cons hi (by exact ω2 [_] [_] (.Le ν0 (.n 500000)) (.le (.n 0) ξ0) (.le (.a (.c ν0) ξ0) (.n 400000)) w0.1 hw rfl) (by exact ω2 [] [_,_] (.Le ν0 (.n 4000)) (.Le ν0 (.a ν1 (.n 1))) (.Le ν1 (.n 3000)) hn hle rfl) hrd r1
theorem pcStep_acc {check up : Int} {sh : Bool} (f : List Ev) (t : Bool) (p : Y) : pcStep check sh up ⟨f,t,p⟩ = ⟨f ++ (pcStep check sh up ⟨[],false,p⟩).f,t || (pcStep check sh up ⟨[],false,p⟩).t,(pcStep check sh up ⟨[],false,p⟩).p⟩ := by
 unfold pcStep
 dsimp only
 split
 ·simp
 ·split
  ·simp
  ·split <;> simp
theorem ϰau {check up : Int} {sh : Bool} : ∀ (n : Nat) (f : List Ev) (t : Bool) (p : Y),pcs check sh up n ⟨f,t,p⟩ = ⟨f ++ (pcs check sh up n ⟨[],false,p⟩).f,t || (pcs check sh up n ⟨[],false,p⟩).t,(pcs check sh up n ⟨[],false,p⟩).p⟩
 | 0,f,t,p => by simp [pcs]
 | n + 1,f,t,p => by
  simp only [pcs]
  split
  ·rw [pcStep_acc f t p]
   generalize pcStep check sh up ⟨[],false,p⟩ = s
   obtain ⟨f1,t1,p1⟩ := s
   rw [ϰau n (f ++ f1),ϰau n f1]
   simp [Bool.or_assoc]
  ·simp
theorem rem_same {d : Y} {block check : Int} {a1 b1 a2 b2 : Int} {s1 s2 : Bool} {es : List Ev} {tn : Bool} (h : ∀ R : RS,R.at_ = a1 → R.be = b1 → R.short = s1 → fragF d block check R = fragF d block check { R with at_ := a2,be := b2,short := s2 })
  (hr : Rem d block check a2 b2 s2 es tn) : Rem d block check a1 b1 s1 es tn := by
 cases hr with
 | fin h1 h2 => exact .fin (fun R p q r => (h R p q r).trans (h1 _ rfl rfl rfl)) h2
 | good hk h1 hr => exact .good hk (fun R p q r => (h R p q r).trans (h1 _ rfl rfl rfl)) hr
 | bad hk h1 hr => exact .bad hk (fun R p q r => let ⟨w,e⟩ := h1 { R with at_ := a2,be := b2,short := s2 } rfl rfl rfl;⟨w,(h R p q r).trans e⟩) hr
 | zero hk hy h1 hr => exact .zero hk hy (fun R p q r => (h R p q r).trans (h1 _ rfl rfl rfl)) hr
theorem ϰaS {d : Y} {block check : Int} {R : RS} (h : R.be - R.at_ < 7) (hs : R.short = false) : fragF d block check R = fragC d check (turnF d block R) := by unfold fragF;rw [if_pos ⟨h,hs⟩]
theorem ϰaq {d : Y} {block check : Int} {R : RS} (h : ¬ (R.be - R.at_ < 7 ∧ R.short = false)) : fragF d block check R = fragC d check R := by unfold fragF;rw [if_neg h]
theorem rem_turn {d : Y} {block check : Int} {a b : Int} {es : List Ev} {tn : Bool} (h : b - a < 7) (hr : Rem d block check b b false es tn) : Rem d block check a b false es tn :=
 rem_same (fun R p q r => by rw [ϰaS (by rw [p,q];exact h) r,ϰaS (by dsimp only;exact κ0 [_] [] (.lt (.s ξ0 ξ0) (.n 7)) [1] rfl) rfl];simp only [turnF,turnE,q]) hr
theorem ϰaP {d : Y} {block check b : Int} (R : RS) (h1 : R.at_ = b) (h2 : R.be = b) (h3 : R.short = true) : fragF d block check R = ((-1,[]),R) := by
 rw [ϰaq (by rintro ⟨_,q⟩;rw [h3] at q;cases q),fragC_end1 (by exact κ2 [_,_,_] [] (.lt (.s ξ0 ξ1) (.n 7)) (.eq ξ0 ξ2) (.eq ξ1 ξ2) [1,1,-1] h2 h1 rfl) (by exact κ2 [_,_,_] [] (.nlt ξ0 ξ1) (.eq ξ1 ξ2) (.eq ξ0 ξ2) [1,1,-1] h2 h1 rfl)]
theorem rem_end {d : Y} {block check b : Int} : Rem d block check b b true [] false :=
 .fin (a' := b) (b' := b) (s' := true) (fun R p q r => by rw [ϰaP R p q r];obtain ⟨x1,x2,x3,x4,x5,x6,x7,x8⟩ := R;dsimp only at p q r;obtain rfl := p.symm;obtain rfl := q.symm;obtain rfl := r.symm;simp) (fun R p q r => ϰaP R p q r)
noncomputable abbrev sl (d : Y) (a b : Int) : Y := (d.take b.toNat).drop a.toNat
theorem sl_len {d : Y} {a b : Int} (h0 : 0 ≤ a) (h1 : a ≤ b) (h2 : b ≤ d.length) : ((sl d a b).length : Int) = b - a := by
 have ha := Int.toNat_of_nonneg h0
 have hb := Int.toNat_of_nonneg (Int.le_trans h0 h1)
 simp only [sl,List.length_drop,List.length_take]
 rw [Nat.min_eq_left (by exact ω2 [_] [_,_] (.Le ν0 ν1) (.eq (.c ν0) ξ0) (.le ξ0 (.c ν1)) hb h2 rfl)]
 exact η3 [_,_] [_,_,_] (.eq (.c ν0) (.s ξ0 ξ1)) (.eq (.c ν1) ξ0) (.eq (.c ν2) ξ1) (.Eq (.a ν0 ν2) ν1) [1,-1,1,-1] [1,1,-1,1] hb ha (Nat.sub_add_cancel (κ3 [_,_] [_,_] (.Le ν0 ν1) (.eq (.c ν1) ξ0) (.eq (.c ν0) ξ1) (.le ξ1 ξ0) [1,-1,1,1] hb ha h1 rfl)) rfl
theorem sl_getD {d : Y} {a b : Int} {j : Nat} (h0 : 0 ≤ a) (h1 : a + j < b) (h2 : b ≤ d.length) : d.getD (a + j).toNat 0 = (sl d a b).getD j 0 := by
 have e : (a + (j : Int)).toNat = a.toNat + j := by exact η4 [_,_] [_,_,_] (.Eq ν0 (.a ν1 ν2)) (.eq (.c ν0) (.a ξ0 (.c ν2))) (.le ξ0 (.c ν1)) (.le (.a ξ1 (.c ν2)) (.c ν0)) (.eq (.c ν1) ξ1) [1,0,0,1,1] [1,1,1,0,0] (Int.toNat_of_nonneg (ω1 [_] [_] (.le (.n 0) (.a ξ0 (.c ν0))) (.le (.n 0) ξ0) h0 rfl)) (Int.self_le_toNat _) (Int.self_le_toNat _) (Int.toNat_of_nonneg (δj h0 rfl)) rfl
 simp only [sl,List.getD_eq_getElem?_getD,List.getElem?_drop,List.getElem?_take]
 rw [if_pos (by exact κ4 [_,_] [_,_,_,_] (.Lt (.a ν0 ν1) ν2) (.Eq ν3 (.a ν0 ν1)) (.lt (.a ξ0 (.c ν1)) ξ1) (.eq (.c ν3) (.a ξ0 (.c ν1))) (.le ξ1 (.c ν2)) [1,-1,1,1,1] e h1 (Int.toNat_of_nonneg (ω1 [_] [_] (.le (.n 0) (.a ξ0 (.c ν0))) (.le (.n 0) ξ0) h0 rfl)) (Int.self_le_toNat _) rfl),e]
theorem sl_drop {d : Y} {a b : Int} {n : Nat} (h0 : 0 ≤ a) : (sl d a b).drop n = sl d (a + n) b := by
 simp only [sl,List.drop_drop]
 congr 1;exact η4 [_,_] [_,_,_] (.Eq (.a ν0 ν1) ν2) (.eq (.c ν0) ξ0) (.le (.a ξ0 (.c ν1)) (.c ν2)) (.le ξ1 (.c ν0)) (.eq (.c ν2) (.a ξ1 (.c ν1))) [1,0,0,1,1] [1,1,1,0,0] (Int.toNat_of_nonneg (δj h0 rfl)) (Int.self_le_toNat _) (Int.self_le_toNat _) (Int.toNat_of_nonneg (ω1 [_] [_] (.le (.n 0) (.a ξ0 (.c ν0))) (.le (.n 0) ξ0) h0 rfl)) rfl
theorem sl_take {d : Y} {a b : Int} {n : Nat} (h0 : 0 ≤ a) (h : a + n ≤ b) : (sl d a b).take n = sl d a (a + n) := by
 simp only [sl]
 have ha := Int.toNat_of_nonneg h0
 have hb := Int.toNat_of_nonneg (show 0 ≤ a + (n : Int) by exact ω1 [_] [_] (.le (.n 0) (.a ξ0 (.c ν0))) (.le (.n 0) ξ0) h0 rfl)
 rw [List.take_drop,List.take_take,Nat.min_eq_left (by exact ω3 [_,_] [_,_,_] (.Le (.a ν0 ν1) ν2) (.eq (.c ν0) ξ0) (.le (.a ξ0 (.c ν1)) ξ1) (.le ξ1 (.c ν2)) ha h (Int.self_le_toNat _) rfl)]
 congr 2;exact η2 [_] [_,_,_] (.Eq (.a ν0 ν1) ν2) (.eq (.c ν2) (.a ξ0 (.c ν1))) (.eq (.c ν0) ξ0) [1,1,-1] [1,-1,1] hb ha rfl
theorem byt_getD {d : Y} (h : Byt d) (i : Nat) : 0 ≤ d.getD i 0 ∧ d.getD i 0 < 256 := ϱT h i
theorem byt_sl {d : Y} (h : Byt d) (a b : Int) : Byt (sl d a b) := fun x hx => h x (List.mem_of_mem_take (List.mem_of_mem_drop hx))
theorem seven {p : Y} (h : 7 ≤ (p.length : Int)) : ∃ a0 a1 a2 a3 a4 a5 a6 q,p = a0 :: a1 :: a2 :: a3 :: a4 :: a5 :: a6 :: q := by
 match p,h with
 | a0 :: a1 :: a2 :: a3 :: a4 :: a5 :: a6 :: q,_ => exact ⟨a0,a1,a2,a3,a4,a5,a6,q,rfl⟩
 | [],h => simp at h
 | [_],h => simp at h
 | [_,_],h => simp at h
 | [_,_,_],h => simp at h
 | [_,_,_,_],h => simp at h
 | [_,_,_,_,_],h => simp at h
 | [_,_,_,_,_,_],h => simp at h
theorem frag_iff {a0 a1 a2 a3 a4 a5 a6 : Int} {y : Y} {check : Int} (h : Byt (a0 :: a1 :: a2 :: a3 :: a4 :: a5 :: a6 :: y)) (hl : (y.length : Int) = a4 + 256 * a5) :
  fragY a6 y check = a0 :: a1 :: a2 :: a3 :: a4 :: a5 :: a6 :: y ↔ a0 + a1 * 256 + a2 * 65536 + a3 * 16777216 = ckF check (a6 :: y) := by
 have b0 := h a0 (by simp)
 have b1 := h a1 (by simp)
 have b2 := h a2 (by simp)
 have b3 := h a3 (by simp)
 have b4 := h a4 (by simp)
 have b5 := h a5 (by simp)
 rw [rd_eq b0 b1 b2 b3 (ckF_in _ _)]
 unfold fragY
 have e4 : (y.length : Int) % 256 = a4 := by rw [hl,Int.add_mul_emod_self_left];exact Int.emod_eq_of_lt b4.1 b4.2
 have e5 : (y.length : Int) / 256 = a5 := by exact η3 [_,_,_,_] [_] (.eq ξ0 ξ1) (.eq ξ2 ξ3) (.eq (.c ν0) (.a ξ3 (.m 256 ξ1))) (.eq (.a (.m 256 ξ0) ξ2) (.c ν0)) [256,1,-1,-1] [256,-1,1,1] e4 hl (Int.mul_ediv_add_emod _ _) rfl
 rw [e4,e5,le4]
 simp only [List.cons_append,List.nil_append]
 constructor
 ·intro q
  injection q with q1 q;injection q with q2 q;injection q with q3 q;injection q with q4 q
  rw [q1,q2,q3,q4]
 ·intro q
  injection q with q1 q;injection q with q2 q;injection q with q3 q;injection q with q4 q
  rw [q1,q2,q3,q4]
theorem part_rem {d : Y} {block check be : Int} {sh : Bool} (hd : Byt d) (hbe : be ≤ d.length) : ∀ (n : Nat) (a : Int),0 ≤ a → a ≤ be → (sl d a be).length ≤ n →
  (sh = true → Rem d block check a be true (pcs check true be n ⟨[],false,sl d a be⟩).f ((pcs check true be n ⟨[],false,sl d a be⟩).t || decide (0 < ((pcs check true be n ⟨[],false,sl d a be⟩).p.length : Int)))) ∧
  (sh = false → (pcs check false be n ⟨[],false,sl d a be⟩).t = false ∧ ∀ es tn,Rem d block check be be false es tn → Rem d block check a be false ((pcs check false be n ⟨[],false,sl d a be⟩).f ++ es) tn) := by
 intro n
 induction n with
 | zero =>
  intro a h0 h1 hn
  have hl := sl_len h0 h1 hbe
  have e : a = be := by exact η3 [_,_] [_] (.eq ξ0 ξ1) (.le ξ0 ξ1) (.eq (.c ν0) (.s ξ1 ξ0)) (.Le ν0 (.n 0)) [1,0,-1,1] [1,1,0,0] h1 hl hn rfl
  subst e
  have e0 : sl d a a = [] := List.eq_nil_of_length_eq_zero (by exact Nat.le_antisymm (ω1 [_] [_] (.Le ν0 (.n 0)) (.eq (.c ν0) (.s ξ0 ξ0)) hl rfl) (Nat.zero_le _))
  rw [e0]
  exact ⟨fun _ => rem_end,fun _ => ⟨rfl,fun es tn h => h⟩⟩
 | succ n ih =>
  intro a h0 h1 hn
  have hl := sl_len h0 h1 hbe
  by_cases h7 : 7 ≤ ((sl d a be).length : Int)
  ·-- a head is there
   have pe : ∀ sh : Bool,pcs check sh be (n + 1) ⟨[],false,sl d a be⟩ = pcs check sh be n (pcStep check sh be ⟨[],false,sl d a be⟩) := fun sh => by simp only [pcs,if_pos h7]
   have g : ∀ j : Nat,j < 7 → d.getD (a + j).toNat 0 = (sl d a be).getD j 0 := fun j hj => sl_getD h0 (by exact ω3 [_,_] [_,_] (.lt (.a ξ0 (.c ν0)) ξ1) (.Lt ν0 (.n 7)) (.le (.n 7) (.c ν1)) (.eq (.c ν1) (.s ξ1 ξ0)) hj h7 hl rfl) hbe
   have hby := byt_sl hd a be
   have hstop : ∀ (sh : Bool) (f : List Ev) (t : Bool),pcs check sh be n ⟨f,t,[]⟩ = ⟨f,t,[]⟩ := fun sh f t => ϱS (by simp)
   obtain ⟨a0,a1,a2,a3,a4,a5,a6,q,hp⟩ := seven h7
   rw [hp] at g hby
   have g0 : d.getD (a + ((0 : Nat) : Int)).toNat 0 = a0 := g 0 (by decide)
   have g1 : d.getD (a + ((1 : Nat) : Int)).toNat 0 = a1 := g 1 (by decide)
   have g2 : d.getD (a + ((2 : Nat) : Int)).toNat 0 = a2 := g 2 (by decide)
   have g3 : d.getD (a + ((3 : Nat) : Int)).toNat 0 = a3 := g 3 (by decide)
   have g4 : d.getD (a + ((4 : Nat) : Int)).toNat 0 = a4 := g 4 (by decide)
   have g5 : d.getD (a + ((5 : Nat) : Int)).toNat 0 = a5 := g 5 (by decide)
   have g6 : d.getD (a + ((6 : Nat) : Int)).toNat 0 = a6 := g 6 (by decide)
   have b4 := hby a4 (.tail _ (.tail _ (.tail _ (.tail _ (.head _)))));have b5 := hby a5 (.tail _ (.tail _ (.tail _ (.tail _ (.tail _ (.head _))))))
   have eN : (7 + a4 + 256 * a5).toNat = (a4 + 256 * a5).toNat + 7 := by
    have q1 := Int.toNat_of_nonneg (show 0 ≤ 7 + a4 + 256 * a5 by exact κ2 [_,_] [] (.le (.n 0) (.a (.a (.n 7) ξ0) (.m 256 ξ1))) (.le (.n 0) ξ1) (.le (.n 0) ξ0) [1,256,1] b5.1 b4.1 rfl)
    have q2 := Int.toNat_of_nonneg (show 0 ≤ a4 + 256 * a5 by exact κ2 [_,_] [] (.le (.n 0) (.a ξ0 (.m 256 ξ1))) (.le (.n 0) ξ1) (.le (.n 0) ξ0) [1,256,1] b5.1 b4.1 rfl)
    exact η2 [_,_] [_,_] (.Eq ν0 (.a ν1 (.n 7))) (.eq (.c ν1) (.a ξ0 (.m 256 ξ1))) (.eq (.c ν0) (.a (.a (.n 7) ξ0) (.m 256 ξ1))) [1,1,-1] [1,-1,1] q2 q1 rfl
   have pos7 : 0 ≤ 7 + a4 + 256 * a5 := by exact κ2 [_,_] [] (.le (.n 0) (.a (.a (.n 7) ξ0) (.m 256 ξ1))) (.le (.n 0) ξ1) (.le (.n 0) ξ0) [1,256,1] b5.1 b4.1 rfl
   have sz : pSz (sl d a be) = 7 + a4 + 256 * a5 := by rw [hp];rfl
   have nturn : ∀ R : RS,R.at_ = a → R.be = be → fragF d block check R = fragC d check R := fun R p q => ϰaq (by rintro ⟨x,_⟩;rw [p,q] at x;exact β3 [_,_] [_] (.lt (.s ξ0 ξ1) (.n 7)) (.le (.n 7) (.c ν0)) (.eq (.c ν0) (.s ξ0 ξ1)) x h7 hl rfl)
   have hsz : ∀ R : RS,R.at_ = a → szR d R = a4 + a5 * 256 := fun R p => by unfold szR;rw [p];rw [show a + 4 = a + ((4 : Nat) : Int) from rfl,show a + 5 = a + ((5 : Nat) : Int) from rfl];rw [g4,g5]
   have hkd : ∀ R : RS,R.at_ = a → d.getD (R.at_ + 6).toNat 0 = a6 := fun R p => by rw [p];exact g6
   have hqb : (q.length : Int) = be - a - 7 := by rw [hp] at hl;simp only [List.length_cons] at hl;exact η1 [_,_] [_] (.eq (.c ν0) (.s (.s ξ0 ξ1) (.n 7))) (.eq (.c (.a (.a (.a (.a (.a (.a (.a ν0 (.n 1)) (.n 1)) (.n 1)) (.n 1)) (.n 1)) (.n 1)) (.n 1))) (.s ξ0 ξ1)) [1,-1] [1,1] hl rfl
   have whole : 7 + a4 + 256 * a5 ≤ be - a → ∃ y r,q = y ++ r ∧ (y.length : Int) = a4 + 256 * a5 ∧ pPc (sl d a be) = a0 :: a1 :: a2 :: a3 :: a4 :: a5 :: a6 :: y ∧ pBd (sl d a be) = y ∧ cut (sl d a be) (some (pSz (sl d a be))) none = r ∧ (∀ R : RS,R.at_ = a → bodyR d R = a6 :: y) ∧ r = sl d (a + (7 + a4 + 256 * a5)) be := by
    intro hw
    refine ⟨q.take (a4 + 256 * a5).toNat,q.drop (a4 + 256 * a5).toNat,(List.take_append_drop _ _).symm,by rw [List.length_take_of_le (by omega)];omega,?_,?_,?_,?_,?_⟩
    ·unfold pPc;rw [sz,ϰah _ pos7,hp,eN];rfl
    ·unfold pBd pPc;rw [sz,ϰah _ pos7,hp,eN,ϱs _ (by decide)];rfl
    ·rw [sz,ϱs _ pos7,hp,eN];rfl
    ·intro R p
     unfold bodyR
     rw [hsz R p,p,cut_run _ (by exact ω1 [_] [] (.le (.n 0) (.s (.a ξ0 (.n 7)) (.n 1))) (.le (.n 0) ξ0) h0 rfl) (by exact κ3 [_,_,_] [] (.le (.n 0) (.a (.a ξ0 (.n 7)) (.a ξ1 (.r ξ2 256)))) (.le (.n 0) ξ2) (.le (.n 0) ξ1) (.le (.n 0) ξ0) [1,256,1,1] b5.1 b4.1 h0 rfl)]
     have e1 : (d.take (a + 7 + (a4 + a5 * 256)).toNat).drop (a + 7 - 1).toNat = ((sl d a be).take ((a4 + 256 * a5).toNat + 7)).drop 6 := by
      rw [sl_take h0 (by exact ω2 [_,_,_,_] [_] (.le (.a ξ0 (.c (.a ν0 (.n 7)))) ξ1) (.le (.a (.a (.n 7) ξ2) (.m 256 ξ3)) (.s ξ1 ξ0)) (.eq (.c ν0) (.a ξ2 (.m 256 ξ3))) hw (Int.toNat_of_nonneg (κ2 [_,_] [] (.le (.n 0) (.a ξ0 (.m 256 ξ1))) (.le (.n 0) ξ1) (.le (.n 0) ξ0) [1,256,1] b5.1 b4.1 rfl)) rfl),sl_drop h0]
      simp only [sl]
      have e2 : (a + 7 - 1).toNat = (a + ((6 : Nat) : Int)).toNat := by exact η4 [_,_] [_,_] (.Eq ν0 ν1) (.eq (.c ν0) (.s (.a ξ0 (.n 7)) (.n 1))) (.le (.a ξ0 (.c (.n 6))) (.c ν1)) (.le (.s (.a ξ1 (.n 7)) (.n 1)) (.c ν0)) (.eq (.c ν1) (.a ξ1 (.c (.n 6)))) [1,0,0,1,1] [1,1,1,0,0] (Int.toNat_of_nonneg (ω1 [_] [] (.le (.n 0) (.s (.a ξ0 (.n 7)) (.n 1))) (.le (.n 0) ξ0) h0 rfl)) (Int.self_le_toNat _) (Int.self_le_toNat _) (Int.toNat_of_nonneg (ω1 [_] [] (.le (.n 0) (.a ξ0 (.c (.n 6)))) (.le (.n 0) ξ0) h0 rfl)) rfl
      have e3 : (a + 7 + (a4 + a5 * 256)).toNat = (a + (((a4 + 256 * a5).toNat + 7 : Nat) : Int)).toNat := by exact Nat.le_antisymm (ω3 [_,_,_] [_,_,_] (.Le ν0 ν1) (.eq (.c ν0) (.a (.a ξ0 (.n 7)) (.a ξ1 (.r ξ2 256)))) (.le (.a ξ0 (.c (.a ν2 (.n 7)))) (.c ν1)) (.le (.a ξ1 (.m 256 ξ2)) (.c ν2)) (Int.toNat_of_nonneg (κ3 [_,_,_] [] (.le (.n 0) (.a (.a ξ0 (.n 7)) (.a ξ1 (.r ξ2 256)))) (.le (.n 0) ξ2) (.le (.n 0) ξ1) (.le (.n 0) ξ0) [1,256,1,1] b5.1 b4.1 h0 rfl)) (Int.self_le_toNat _) (Int.self_le_toNat _) rfl) (ω3 [_,_,_] [_,_,_] (.Le ν0 ν1) (.le (.a (.a ξ0 (.n 7)) (.a ξ1 (.r ξ2 256))) (.c ν1)) (.eq (.c ν0) (.a ξ0 (.c (.a ν2 (.n 7))))) (.eq (.c ν2) (.a ξ1 (.m 256 ξ2))) (Int.self_le_toNat _) (Int.toNat_of_nonneg (ω1 [_] [_] (.le (.n 0) (.a ξ0 (.c (.a ν0 (.n 7))))) (.le (.n 0) ξ0) h0 rfl)) (Int.toNat_of_nonneg (κ2 [_,_] [] (.le (.n 0) (.a ξ0 (.m 256 ξ1))) (.le (.n 0) ξ1) (.le (.n 0) ξ0) [1,256,1] b5.1 b4.1 rfl)) rfl)
      rw [e2,e3]
     rw [e1,hp];rfl
    ·have e1 : sl d (a + (7 + a4 + 256 * a5)) be = (sl d a be).drop ((a4 + 256 * a5).toNat + 7) := by
      rw [sl_drop h0];congr 1;exact η2 [_,_,_] [_] (.eq (.a ξ0 (.a (.a (.n 7) ξ1) (.m 256 ξ2))) (.a ξ0 (.c (.a ν0 (.n 7))))) (.le (.a ξ1 (.m 256 ξ2)) (.c ν0)) (.eq (.c ν0) (.a ξ1 (.m 256 ξ2))) [1,0,1] [1,1,0] (Int.self_le_toNat _) (Int.toNat_of_nonneg (κ2 [_,_] [] (.le (.n 0) (.a ξ0 (.m 256 ξ1))) (.le (.n 0) ξ1) (.le (.n 0) ξ0) [1,256,1] b5.1 b4.1 rfl)) rfl
     rw [e1,hp];rfl
   have hrd : ∀ R : RS,R.at_ = a → rd4 d R.at_ = a0 + a1 * 256 + a2 * 65536 + a3 * 16777216 := fun R p => by
    have c0 := hby a0 (.head _);have c1 := hby a1 (.tail _ (.head _));have c2 := hby a2 (.tail _ (.tail _ (.head _)));have c3 := hby a3 (.tail _ (.tail _ (.tail _ (.head _))))
    rw [p,← rd4_val c0 c1 c2 c3,← g0,← g1,← g2,← g3]
    unfold rd4
    simp
   by_cases hlong : be - a < 7 + a4 + 256 * a5
   ·-- longer than what is there
    refine ⟨fun _ => ?_,fun _ => ?_⟩
    ·rw [pe,pc1 (by rw [sz,hl];exact hlong) rfl,hstop]
     refine .fin (a' := be) (b' := be) (s' := true) (fun R p q r => ?_) (fun R p q r => ϰaP R p q r)
     rw [nturn R p q,fragC_torn (by exact κ4 [_,_,_,_] [_] (.nlt (.s ξ0 ξ1) (.n 7)) (.eq ξ0 ξ2) (.eq ξ1 ξ3) (.le (.n 7) (.c ν0)) (.eq (.c ν0) (.s ξ2 ξ3)) [1,-1,1,1,1] q p h7 hl rfl) (by rw [hsz R p];exact κ3 [_,_,_,_,_,_] [] (.lt (.s ξ0 ξ1) (.a (.n 7) (.a ξ2 (.r ξ3 256)))) (.eq ξ0 ξ4) (.eq ξ1 ξ5) (.lt (.s ξ4 ξ5) (.a (.a (.n 7) ξ2) (.m 256 ξ3))) [1,1,-1,1] q p hlong rfl) r]
     obtain ⟨x1,x2,x3,x4,x5,x6,x7,x8⟩ := R
     dsimp only at p q r;obtain rfl := p.symm;obtain rfl := q.symm;obtain rfl := r.symm;simp
    ·have hn0 : ¬ (((sl d a be).length : Int) < pSz (sl d a be) ∧ false = true) := by rintro ⟨_,x⟩;cases x
     rw [pe,pc3 hn0 (by rw [sz];rintro ⟨x,_⟩;exact β4 [_,_,_,_] [_] (.eq (.a (.a (.n 7) ξ0) (.m 256 ξ1)) (.n 7)) (.lt (.s ξ2 ξ3) (.a (.a (.n 7) ξ0) (.m 256 ξ1))) (.le (.n 7) (.c ν0)) (.eq (.c ν0) (.s ξ2 ξ3)) x hlong h7 hl rfl) (.inl (by rw [sz,hl];exact hlong)),hstop]
     refine ⟨rfl,fun es tn h => ?_⟩
     refine .bad (a' := be) (b' := be) (s' := false) rfl (fun R p q r => ⟨.str "bad record length",?_⟩) h
     rw [nturn R p q,fragC_long (by exact κ4 [_,_,_,_] [_] (.nlt (.s ξ0 ξ1) (.n 7)) (.eq ξ0 ξ2) (.eq ξ1 ξ3) (.le (.n 7) (.c ν0)) (.eq (.c ν0) (.s ξ2 ξ3)) [1,-1,1,1,1] q p h7 hl rfl) (by rw [hsz R p];exact κ3 [_,_,_,_,_,_] [] (.lt (.s ξ0 ξ1) (.a (.n 7) (.a ξ2 (.r ξ3 256)))) (.eq ξ0 ξ4) (.eq ξ1 ξ5) (.lt (.s ξ4 ξ5) (.a (.a (.n 7) ξ2) (.m 256 ξ3))) [1,1,-1,1] q p hlong rfl) r]
     obtain ⟨x1,x2,x3,x4,x5,x6,x7,x8⟩ := R
     dsimp only at p q r;obtain rfl := p.symm;obtain rfl := q.symm;obtain rfl := r.symm
     simp only [dropF,ln]
     rw [hl]
   ·obtain ⟨y,r,hq,hly,hpc,hbd,hct,hbo,hr⟩ := whole (by exact ω1 [_,_,_,_] [] (.le (.a (.a (.n 7) ξ0) (.m 256 ξ1)) (.s ξ2 ξ3)) (.nlt (.s ξ2 ξ3) (.a (.a (.n 7) ξ0) (.m 256 ξ1))) hlong rfl)
    have hn0 : ∀ sh : Bool,¬ (((sl d a be).length : Int) < pSz (sl d a be) ∧ sh = true) := fun sh => by rintro ⟨x,_⟩;rw [sz,hl] at x;exact β2 [_,_,_,_] [] (.lt (.s ξ0 ξ1) (.a (.a (.n 7) ξ2) (.m 256 ξ3))) (.nlt (.s ξ0 ξ1) (.a (.a (.n 7) ξ2) (.m 256 ξ3))) x hlong rfl
    have hn1 : ∀ R : RS,R.at_ = a → R.be = be → ¬ R.be - R.at_ < 7 + szR d R := fun R p q => by rw [hsz R p,p,q];exact ω1 [_,_,_,_] [] (.nlt (.s ξ0 ξ1) (.a (.n 7) (.a ξ2 (.r ξ3 256)))) (.nlt (.s ξ0 ξ1) (.a (.a (.n 7) ξ2) (.m 256 ξ3))) hlong rfl
    have hk6 : (pPc (sl d a be)).getD (6 : Int).toNat 0 = a6 := by rw [hpc];rfl
    by_cases hz : a6 = 0 ∧ a4 + 256 * a5 = 0
    ·have st : ∀ sh : Bool,pcs check sh be (n + 1) ⟨[],false,sl d a be⟩ = ⟨[(-2,[],0)],false,[]⟩ := fun sh => by
      rw [pe,pc2 (hn0 sh) (by rw [sz];exact η1 [_,_] [] (.eq (.a (.a (.n 7) ξ0) (.m 256 ξ1)) (.n 7)) (.eq (.a ξ0 (.m 256 ξ1)) (.n 0)) [1,-1] [1,1] hz.2 rfl) (by rw [hk6];exact hz.1),hstop];rfl
     have fr : ∀ R : RS,R.at_ = a → R.be = be → fragF d block check R = ((-2,[]),{ R with at_ := R.be,breaks := R.breaks + 1 }) := fun R p q => by
      rw [nturn R p q,fragC_zero (by exact κ4 [_,_,_,_,_,_] [] (.nlt (.s ξ0 ξ1) (.n 7)) (.eq ξ0 ξ2) (.eq ξ1 ξ3) (.eq (.a ξ4 (.m 256 ξ5)) (.n 0)) (.nlt (.s ξ2 ξ3) (.a (.a (.n 7) ξ4) (.m 256 ξ5))) [1,-1,1,-1,1] q p hz.2 hlong rfl) (hn1 R p q) ⟨by rw [hkd R p];exact hz.1,by rw [hsz R p];exact η1 [_,_] [] (.eq (.a ξ0 (.r ξ1 256)) (.n 0)) (.eq (.a ξ0 (.m 256 ξ1)) (.n 0)) [1,-1] [1,1] hz.2 rfl⟩]
     refine ⟨fun _ => ?_,fun _ => ?_⟩
     ·rw [st]
      refine .zero (a' := be) (b' := be) (s' := true) rfl rfl (fun R p q r => ?_) rem_end
      rw [fr R p q]
      obtain ⟨x1,x2,x3,x4,x5,x6,x7,x8⟩ := R
      dsimp only at p q r;obtain rfl := p.symm;obtain rfl := q.symm;obtain rfl := r.symm;rfl
     ·rw [st]
      refine ⟨rfl,fun es tn h => ?_⟩
      refine .zero (a' := be) (b' := be) (s' := false) rfl rfl (fun R p q r => ?_) h
      rw [fr R p q]
      obtain ⟨x1,x2,x3,x4,x5,x6,x7,x8⟩ := R
      dsimp only at p q r;obtain rfl := p.symm;obtain rfl := q.symm;obtain rfl := r.symm;rfl
    ·have hnz : ¬ (pSz (sl d a be) = 7 ∧ (pPc (sl d a be)).getD (6 : Int).toNat 0 = 0) := by rw [hk6,sz];rintro ⟨x,z⟩;exact hz ⟨z,by exact η1 [_,_] [] (.eq (.a ξ0 (.m 256 ξ1)) (.n 0)) (.eq (.a (.a (.n 7) ξ0) (.m 256 ξ1)) (.n 7)) [1,-1] [1,1] x rfl⟩
     have hnz' : ∀ R : RS,R.at_ = a → ¬ (d.getD (R.at_ + 6).toNat 0 = 0 ∧ szR d R = 0) := fun R p => by rw [hkd R p,hsz R p];rintro ⟨x,z⟩;exact hz ⟨x,by exact η1 [_,_] [] (.eq (.a ξ0 (.m 256 ξ1)) (.n 0)) (.eq (.a ξ0 (.r ξ1 256)) (.n 0)) [1,-1] [1,1] z rfl⟩
     have hfi := frag_iff (check := check) (a0 := a0) (a1 := a1) (a2 := a2) (a3 := a3) (a4 := a4) (a5 := a5) (a6 := a6) (y := y) (by rw [hq] at hby;intro x hx;exact hby x (by simp only [List.mem_cons,List.mem_append] at hx ⊢;rcases hx with h | h | h | h | h | h | h | h <;> simp [h])) hly
     by_cases hok : fragY a6 y check = a0 :: a1 :: a2 :: a3 :: a4 :: a5 :: a6 :: y
     ·-- a good one
      have hck := hfi.mp hok
      have hnn : ¬ (((sl d a be).length : Int) < pSz (sl d a be) ∨ fragY ((pPc (sl d a be)).getD (6 : Int).toNat 0) (pBd (sl d a be)) check ≠ pPc (sl d a be)) := by
       rw [hk6,hbd,hpc,sz,hl];rintro (x | x)
       ·exact β2 [_,_,_,_] [] (.lt (.s ξ0 ξ1) (.a (.a (.n 7) ξ2) (.m 256 ξ3))) (.nlt (.s ξ0 ξ1) (.a (.a (.n 7) ξ2) (.m 256 ξ3))) x hlong rfl
       ·exact x hok
      have hrl : (r.length : Int) = be - (a + (7 + a4 + 256 * a5)) := by rw [hr];exact sl_len (by exact κ3 [_,_,_] [] (.le (.n 0) (.a ξ0 (.a (.a (.n 7) ξ1) (.m 256 ξ2)))) (.le (.n 0) ξ2) (.le (.n 0) ξ1) (.le (.n 0) ξ0) [1,256,1,1] b5.1 b4.1 h0 rfl) (by exact ω1 [_,_,_,_] [] (.le (.a ξ0 (.a (.a (.n 7) ξ1) (.m 256 ξ2))) ξ3) (.nlt (.s ξ3 ξ0) (.a (.a (.n 7) ξ1) (.m 256 ξ2))) hlong rfl) hbe
      have st : ∀ sh : Bool,pcs check sh be (n + 1) ⟨[],false,sl d a be⟩ = pcs check sh be n ⟨[(a6,y,a + (7 + a4 + 256 * a5))],false,sl d (a + (7 + a4 + 256 * a5)) be⟩ := fun sh => by
       rw [pe,pc4 (hn0 sh) hnz hnn,hk6,hbd,hct,hrl,← hr]
       simp only [List.nil_append]
       congr 3
       simp only [Prod.mk.injEq,true_and]
       congr 1;exact η0 [_,_,_,_] [] (.eq (.s ξ0 (.s ξ0 (.a ξ1 (.a (.a (.n 7) ξ2) (.m 256 ξ3))))) (.a ξ1 (.a (.a (.n 7) ξ2) (.m 256 ξ3)))) [1] [1] rfl
      have fr : ∀ R : RS,R.at_ = a → R.be = be → fragF d block check R = ((a6,y),{ R with at_ := a + (7 + a4 + 256 * a5) }) := fun R p q => by
       rw [nturn R p q,fragC_good (by exact κ5 [_,_,_,_,_,_] [] (.nlt (.s ξ0 ξ1) (.n 7)) (.eq ξ0 ξ2) (.eq ξ1 ξ3) (.nlt (.s ξ2 ξ3) (.a (.a (.n 7) ξ4) (.m 256 ξ5))) (.le (.n 0) ξ5) (.le (.n 0) ξ4) [1,-1,1,1,256,1] q p hlong b5.1 b4.1 rfl) (hn1 R p q) (hnz' R p) (by rw [hrd R p,hbo R p];exact fun x => x hck),hkd R p,hbo R p,hsz R p,p,ϱs _ (by decide)]
       have : a + 7 + (a4 + a5 * 256) = a + (7 + a4 + 256 * a5) := by exact η0 [_,_,_] [] (.eq (.a (.a ξ0 (.n 7)) (.a ξ1 (.r ξ2 256))) (.a ξ0 (.a (.a (.n 7) ξ1) (.m 256 ξ2)))) [1] [1] rfl
       rw [this];rfl
      have hlen : (sl d (a + (7 + a4 + 256 * a5)) be).length ≤ n := by rw [← hr];exact κ5 [_,_,_,_] [_,_,_] (.Le ν0 ν1) (.eq (.c ν0) (.s ξ0 (.a ξ1 (.a (.a (.n 7) ξ2) (.m 256 ξ3))))) (.le (.n 0) ξ3) (.le (.n 0) ξ2) (.eq (.c ν2) (.s ξ0 ξ1)) (.Le ν2 (.a ν1 (.n 1))) [1,1,256,1,-1,1] hrl b5.1 b4.1 hl hn rfl
      obtain ⟨i1,i2⟩ := ih (a + (7 + a4 + 256 * a5)) (by exact κ3 [_,_,_] [] (.le (.n 0) (.a ξ0 (.a (.a (.n 7) ξ1) (.m 256 ξ2)))) (.le (.n 0) ξ2) (.le (.n 0) ξ1) (.le (.n 0) ξ0) [1,256,1,1] b5.1 b4.1 h0 rfl) (by exact ω1 [_,_,_,_] [] (.le (.a ξ0 (.a (.a (.n 7) ξ1) (.m 256 ξ2))) ξ3) (.nlt (.s ξ3 ξ0) (.a (.a (.n 7) ξ1) (.m 256 ξ2))) hlong rfl) hlen
      refine ⟨fun e => ?_,fun e => ?_⟩
      ·have := i1 e
       rw [st,ϰau]
       simp only [List.cons_append,List.nil_append,Bool.false_or]
       refine .good (b' := be) (s' := true) (show 0 ≤ a6 from (hby a6 (by simp)).1) (fun R p q r => ?_) this
       rw [fr R p q]
       obtain ⟨x1,x2,x3,x4,x5,x6,x7,x8⟩ := R
       dsimp only at p q r;obtain rfl := p.symm;obtain rfl := q.symm;obtain rfl := r.symm;rfl
      ·obtain ⟨j1,j2⟩ := i2 e
       rw [st,ϰau]
       simp only [List.cons_append,List.nil_append,Bool.false_or]
       refine ⟨j1,fun es tn h => ?_⟩
       refine .good (b' := be) (s' := false) (show 0 ≤ a6 from (hby a6 (by simp)).1) (fun R p q r => ?_) (j2 es tn h)
       rw [fr R p q]
       obtain ⟨x1,x2,x3,x4,x5,x6,x7,x8⟩ := R
       dsimp only at p q r;obtain rfl := p.symm;obtain rfl := q.symm;obtain rfl := r.symm;rfl
     ·have hck : ¬ _ := fun x => hok (hfi.mpr x)
      have hnn : ((sl d a be).length : Int) < pSz (sl d a be) ∨ fragY ((pPc (sl d a be)).getD (6 : Int).toNat 0) (pBd (sl d a be)) check ≠ pPc (sl d a be) := by
       rw [hk6,hbd,hpc];exact .inr hok
      have st : ∀ sh : Bool,pcs check sh be (n + 1) ⟨[],false,sl d a be⟩ = ⟨[(-1,sl d a be,0)],false,[]⟩ := fun sh => by
       rw [pe,pc3 (hn0 sh) hnz hnn,hstop];rfl
      have fr : ∀ R : RS,R.at_ = a → R.be = be → fragF d block check R = ((-2,[]),dropF { R with at_ := R.be,breaks := R.breaks + 1 } (R.be - R.at_) (.str "checksum mismatch")) := fun R p q => by
       rw [nturn R p q,fragC_bad (by exact κ5 [_,_,_,_,_,_] [] (.nlt (.s ξ0 ξ1) (.n 7)) (.eq ξ0 ξ2) (.eq ξ1 ξ3) (.nlt (.s ξ2 ξ3) (.a (.a (.n 7) ξ4) (.m 256 ξ5))) (.le (.n 0) ξ5) (.le (.n 0) ξ4) [1,-1,1,1,256,1] q p hlong b5.1 b4.1 rfl) (hn1 R p q) (hnz' R p) (by rw [hrd R p,hbo R p];exact hck)]
      refine ⟨fun _ => ?_,fun _ => ?_⟩
      ·rw [st]
       refine .bad (a' := be) (b' := be) (s' := true) rfl (fun R p q r => ⟨.str "checksum mismatch",?_⟩) rem_end
       rw [fr R p q]
       obtain ⟨x1,x2,x3,x4,x5,x6,x7,x8⟩ := R
       dsimp only at p q r;obtain rfl := p.symm;obtain rfl := q.symm;obtain rfl := r.symm
       simp only [dropF,ln]
       rw [hl]
      ·rw [st]
       refine ⟨rfl,fun es tn h => ?_⟩
       refine .bad (a' := be) (b' := be) (s' := false) rfl (fun R p q r => ⟨.str "checksum mismatch",?_⟩) h
       rw [fr R p q]
       obtain ⟨x1,x2,x3,x4,x5,x6,x7,x8⟩ := R
       dsimp only at p q r;obtain rfl := p.symm;obtain rfl := q.symm;obtain rfl := r.symm
       simp only [dropF,ln]
       rw [hl]
  ·-- too little for a head
   have pe : ∀ sh : Bool,pcs check sh be (n + 1) ⟨[],false,sl d a be⟩ = ⟨[],false,sl d a be⟩ := fun sh => ϱS h7
   refine ⟨fun _ => ?_,fun _ => ?_⟩
   ·rw [pe]
    refine .fin (a' := be) (b' := be) (s' := true) (fun R p q r => ?_) (fun R p q r => ϰaP R p q r)
    rw [ϰaq (by rintro ⟨_,x⟩;rw [r] at x;cases x)]
    by_cases hab : a < be
    ·rw [fragC_end0 (by exact κ4 [_,_,_,_] [_] (.lt (.s ξ0 ξ1) (.n 7)) (.eq ξ0 ξ2) (.eq ξ1 ξ3) (.nle (.n 7) (.c ν0)) (.eq (.c ν0) (.s ξ2 ξ3)) [1,1,-1,1,-1] q p h7 hl rfl) (by exact κ3 [_,_,_,_] [] (.lt ξ0 ξ1) (.lt ξ2 ξ3) (.eq ξ1 ξ3) (.eq ξ0 ξ2) [1,1,-1,1] hab q p rfl)]
     obtain ⟨x1,x2,x3,x4,x5,x6,x7,x8⟩ := R
     dsimp only at p q r;obtain rfl := p.symm;obtain rfl := q.symm;obtain rfl := r.symm
     simp only [hl]
     rw [decide_eq_true (by exact ω1 [_,_] [] (.lt (.n 0) (.s ξ0 ξ1)) (.lt ξ1 ξ0) hab rfl)];simp
    ·rw [fragC_end1 (by exact κ3 [_,_,_,_] [] (.lt (.s ξ0 ξ1) (.n 7)) (.nlt ξ2 ξ3) (.eq ξ0 ξ3) (.eq ξ1 ξ2) [1,1,1,-1] hab q p rfl) (by exact κ3 [_,_,_,_] [] (.nlt ξ0 ξ1) (.nlt ξ2 ξ3) (.eq ξ1 ξ3) (.eq ξ0 ξ2) [1,1,1,-1] hab q p rfl)]
     obtain ⟨x1,x2,x3,x4,x5,x6,x7,x8⟩ := R
     dsimp only at p q r;obtain rfl := p.symm;obtain rfl := q.symm;obtain rfl := r.symm
     have : a = be := by exact η2 [_,_] [] (.eq ξ0 ξ1) (.le ξ0 ξ1) (.nlt ξ0 ξ1) [1,0,1] [1,1,0] h1 hab rfl
     subst this
     simp only [hl]
     rw [decide_eq_false (by exact κ0 [_] [] (.nlt (.n 0) (.s ξ0 ξ0)) [1] rfl)];simp
   ·rw [pe]
    exact ⟨rfl,fun es tn h => rem_turn (by exact κ2 [_,_] [_] (.lt (.s ξ0 ξ1) (.n 7)) (.nle (.n 7) (.c ν0)) (.eq (.c ν0) (.s ξ0 ξ1)) [1,1,-1] h7 hl rfl) h⟩
noncomputable def blk (d : Y) (block check : Int) (i : Nat) : PS := pcs check (decide (((bkPart d block i).length : Int) < block)) (0 + (i : Int) * block + ((bkPart d block i).length : Int)) (bkPart d block i).length ⟨[],false,bkPart d block i⟩
noncomputable def blkT (d : Y) (block check : Int) (i : Nat) : Bool := (blk d block check i).t || (decide (((bkPart d block i).length : Int) < block) && decide (0 < ((blk d block check i).p.length : Int)))
theorem outF_blk {d : Y} {block check : Int} : ∀ n,outF d block check n = ((List.range n).flatMap (fun i => (blk d block check i).f),(List.range n).any (blkT d block check))
 | 0 => rfl
 | n + 1 => by
  rw [outF,outF_blk n,List.range_succ,List.flatMap_append,List.any_append]
  unfold outStep
  dsimp only
  rw [ϰau]
  simp only [List.flatMap_cons,List.flatMap_nil,List.append_nil,List.any_cons,List.any_nil,Bool.or_false]
  refine Prod.ext rfl ?_
  show (if _ then true else _) = ((List.range n).any (blkT d block check) || blkT d block check n)
  unfold blkT
  show _ = ((List.range n).any (blkT d block check) || ((blk d block check n).t || _))
  split
  ·rename_i h
   have h2 : 0 < ((blk d block check n).p.length : Int) := h.2
   rw [h.1,decide_eq_true h2];simp
  ·rename_i h
   have : (decide (((bkPart d block n).length : Int) < block) && decide (0 < ((blk d block check n).p.length : Int))) = false := by
    rw [Bool.and_eq_false_iff]
    by_cases q : decide (((bkPart d block n).length : Int) < block) = true
    ·right;rw [decide_eq_false_iff_not];exact fun z => h ⟨q,z⟩
    ·left;exact eq_false_of_ne_true q
   rw [this,Bool.or_false];rfl
noncomputable def tailE (d : Y) (block check : Int) (i : Nat) : List Ev := (List.range' i (nBk d block - i)).flatMap (fun i => (blk d block check i).f)
noncomputable def tailT (d : Y) (block check : Int) (i : Nat) : Bool := (List.range' i (nBk d block - i)).any (blkT d block check)
theorem ϱA (d : Y) (block check : Int) : piecesF d block check = (tailE d block check 0,tailT d block check 0) := by
 unfold piecesF tailE tailT
 rw [outF_blk,Nat.sub_zero,List.range_eq_range']
theorem tailE_s {d : Y} {block check : Int} {i : Nat} (h : i < nBk d block) : tailE d block check i = (blk d block check i).f ++ tailE d block check (i + 1) := by
 unfold tailE
 obtain ⟨k,hk⟩ : ∃ k,nBk d block - i = k + 1 := ⟨nBk d block - i - 1,by exact η1 [] [_,_] (.Eq ν0 (.a ν1 (.n 1))) (.Eq (.a ν1 (.n 1)) ν0) [1,1] [1,-1] (Nat.sub_add_cancel (κ2 [] [_,_,_] (.Le (.n 1) ν0) (.Lt ν1 ν2) (.Eq (.a ν0 ν1) ν2) [1,1,-1] h (Nat.sub_add_cancel (Nat.le_of_lt h)) rfl)) rfl⟩
 have e : nBk d block - (i + 1) = k := by exact η3 [] [_,_,_,_,_] (.Eq ν0 ν1) (.Eq ν2 (.a ν1 (.n 1))) (.Eq (.a ν2 ν3) ν4) (.Eq (.a ν0 (.a ν3 (.n 1))) ν4) [1,-1,1,-1] [1,1,-1,1] hk (Nat.sub_add_cancel (Nat.le_of_lt h)) (Nat.sub_add_cancel (Nat.succ_le_of_lt h)) rfl
 rw [hk,e,List.range'_succ,List.flatMap_cons]
theorem tailT_s {d : Y} {block check : Int} {i : Nat} (h : i < nBk d block) : tailT d block check i = (blkT d block check i || tailT d block check (i + 1)) := by
 unfold tailT
 obtain ⟨k,hk⟩ : ∃ k,nBk d block - i = k + 1 := ⟨nBk d block - i - 1,by exact η1 [] [_,_] (.Eq ν0 (.a ν1 (.n 1))) (.Eq (.a ν1 (.n 1)) ν0) [1,1] [1,-1] (Nat.sub_add_cancel (κ2 [] [_,_,_] (.Le (.n 1) ν0) (.Lt ν1 ν2) (.Eq (.a ν0 ν1) ν2) [1,1,-1] h (Nat.sub_add_cancel (Nat.le_of_lt h)) rfl)) rfl⟩
 have e : nBk d block - (i + 1) = k := by exact η3 [] [_,_,_,_,_] (.Eq ν0 ν1) (.Eq ν2 (.a ν1 (.n 1))) (.Eq (.a ν2 ν3) ν4) (.Eq (.a ν0 (.a ν3 (.n 1))) ν4) [1,-1,1,-1] [1,1,-1,1] hk (Nat.sub_add_cancel (Nat.le_of_lt h)) (Nat.sub_add_cancel (Nat.succ_le_of_lt h)) rfl
 rw [hk,e,List.range'_succ,List.any_cons]
theorem ϰaa {d : Y} {block check : Int} {i : Nat} (h : nBk d block ≤ i) : tailE d block check i = [] := by
 unfold tailE;rw [Nat.sub_eq_zero_of_le h];rfl
theorem tailT_end {d : Y} {block check : Int} {i : Nat} (h : nBk d block ≤ i) : tailT d block check i = false := by
 unfold tailT;rw [Nat.sub_eq_zero_of_le h];rfl
theorem nBk_lt {d : Y} {block : Int} (hb : 8 ≤ block) (i : Nat) : i < nBk d block ↔ (i : Int) * block < d.length := by
 have hs := nBk_size (d := d) hb
 unfold Builtin.Range.rangeSize at hs
 rw [if_pos (by exact δl hb rfl)] at hs
 split at hs
 ·rename_i h0
  have key : (i : Int) ≤ ((d.length : Int) - 0 - 1) / block ↔ (i : Int) * block ≤ (d.length : Int) - 0 - 1 := Int.le_ediv_iff_mul_le (by exact δl hb rfl)
  omega
 ·rename_i h0
  have : 0 ≤ (i : Int) * block := Int.mul_nonneg (by exact δz _) (by exact δj hb rfl)
  omega
theorem ϱv {d : Y} {block : Int} {i : Nat} (hb : 8 ≤ block) : bkPart d block i = sl d ((i : Int) * block) ((i : Int) * block + block) := by
 have : 0 ≤ (i : Int) * block := Int.mul_nonneg (by exact δz _) (by exact δj hb rfl)
 unfold bkPart
 rw [cut_run _ (by exact ω1 [_] [] (.le (.n 0) (.a (.n 0) ξ0)) (.le (.n 0) ξ0) this rfl) (by exact ω2 [_,_] [] (.le (.n 0) (.a (.a (.n 0) ξ0) ξ1)) (.le (.n 0) ξ0) (.le (.n 8) ξ1) this hb rfl)]
 simp only [sl,Int.zero_add]
theorem sl_min {d : Y} {a b : Int} : sl d a b = sl d a (if b < (d.length : Int) then b else (d.length : Int)) := by
 unfold sl
 split
 ·rfl
 ·rw [List.take_of_length_le (by exact ω2 [_] [_,_] (.Le ν0 ν1) (.nlt ξ0 (.c ν0)) (.le ξ0 (.c ν1)) (by assumption) (Int.self_le_toNat _) rfl),List.take_of_length_le (by exact ω1 [] [_,_] (.Le ν0 ν1) (.le (.c ν0) (.c ν1)) (Int.self_le_toNat _) rfl)]
theorem blocks_rem {d : Y} {block check : Int} (hd : Byt d) (hb : 8 ≤ block) : ∀ (k i : Nat),nBk d block - i = k → ((i : Int) * block ≤ d.length) → Rem d block check ((i : Int) * block) ((i : Int) * block) false (tailE d block check i) (tailT d block check i) := by
 intro k
 induction k with
 | zero =>
  intro i hk hle
  have hn : nBk d block ≤ i := by omega
  have hge : ¬ (i : Int) * block < d.length := fun q => by have := (nBk_lt hb i).mpr q;exact β2 [] [_,_] (.Lt ν0 ν1) (.Le ν1 ν0) this hn rfl
  have e : (i : Int) * block = d.length := by exact η2 [_] [_] (.eq ξ0 (.c ν0)) (.le ξ0 (.c ν0)) (.nlt ξ0 (.c ν0)) [1,0,1] [1,1,0] hle hge rfl
  rw [ϰaa hn,tailT_end hn,e]
  refine rem_same (a2 := (d.length : Int)) (b2 := (d.length : Int)) (s2 := true) (fun R p q r => ?_) rem_end
  rw [ϰaS (by rw [p,q];exact κ0 [] [_] (.lt (.s (.c ν0) (.c ν0)) (.n 7)) [1] rfl) r,ϰaq (by rintro ⟨_,x⟩;cases x)]
  congr 1
  obtain ⟨x1,x2,x3,x4,x5,x6,x7,x8⟩ := R
  dsimp only at p q r;obtain rfl := p.symm;obtain rfl := q.symm;obtain rfl := r.symm
  simp only [turnF,turnE]
  rw [if_neg (by exact ω1 [_] [_] (.nlt (.a (.c ν0) ξ0) (.c ν0)) (.le (.n 8) ξ0) hb rfl)]
  congr 1
  rw [decide_eq_true (by exact ω1 [_] [_] (.lt (.s (.c ν0) (.c ν0)) ξ0) (.le (.n 8) ξ0) hb rfl)]
 | succ k ih =>
  intro i hk hle
  have hi : i < nBk d block := by omega
  have hlt := (nBk_lt hb i).mp hi
  have h0 : 0 ≤ (i : Int) * block := Int.mul_nonneg (by exact δz _) (by exact δj hb rfl)
  have hs1 : ((i + 1 : Nat) : Int) * block = (i : Int) * block + block := by rw [Int.natCast_add,Int.add_mul];simp
  obtain ⟨be,hbe⟩ : ∃ be,be = (if (i : Int) * block + block < (d.length : Int) then (i : Int) * block + block else (d.length : Int)) := ⟨_,rfl⟩
  have hb1 : be ≤ d.length := by rw [hbe];split <;> (first | exact ω1 [_,_] [_] (.le (.a ξ0 ξ1) (.c ν0)) (.lt (.a ξ0 ξ1) (.c ν0)) (by assumption) rfl | exact κ0 [] [_] (.le (.c ν0) (.c ν0)) [1] rfl)
  have hb2 : (i : Int) * block ≤ be := by rw [hbe];split <;> (first | exact ω1 [_,_] [] (.le ξ0 (.a ξ0 ξ1)) (.le (.n 8) ξ1) hb rfl | exact ω1 [_] [_] (.le ξ0 (.c ν0)) (.lt ξ0 (.c ν0)) hlt rfl)
  have hpart : bkPart d block i = sl d ((i : Int) * block) be := by rw [ϱv hb,sl_min,hbe]
  have hlen : ((bkPart d block i).length : Int) = be - (i : Int) * block := by rw [hpart];exact sl_len h0 hb2 hb1
  have hup : 0 + (i : Int) * block + ((bkPart d block i).length : Int) = be := by rw [hlen];exact η0 [_,_] [] (.eq (.a (.a (.n 0) ξ0) (.s ξ1 ξ0)) ξ1) [1] [1] rfl
  obtain ⟨sh,hsh⟩ : ∃ sh,sh = decide (((bkPart d block i).length : Int) < block) := ⟨_,rfl⟩
  have hblk : blk d block check i = pcs check sh be (bkPart d block i).length ⟨[],false,sl d ((i : Int) * block) be⟩ := by unfold blk;rw [hup,← hsh,hpart]
  obtain ⟨P1,P2⟩ := part_rem (check := check) (block := block) (be := be) (sh := sh) hd hb1 (bkPart d block i).length ((i : Int) * block) h0 hb2 (by rw [hpart];exact Nat.le_refl _)
  have turned : ∀ es tn,Rem d block check ((i : Int) * block) be sh es tn → Rem d block check ((i : Int) * block) ((i : Int) * block) false es tn := fun es tn h => rem_same (fun R p q r => by
   have hsm : sh = decide (be - (i : Int) * block < block) := by rw [hsh,hlen]
   rw [ϰaS (by rw [p,q];exact κ0 [_] [] (.lt (.s ξ0 ξ0) (.n 7)) [1] rfl) r,ϰaq (by
    rintro ⟨x,y⟩
    dsimp only at x y
    rw [hsm,decide_eq_false_iff_not] at y;exact β3 [_,_,_] [] (.nlt (.s ξ0 ξ1) ξ2) (.lt (.s ξ0 ξ1) (.n 7)) (.le (.n 8) ξ2) y x hb rfl)]
   congr 1
   obtain ⟨x1,x2,x3,x4,x5,x6,x7,x8⟩ := R
   dsimp only at p q r
   simp only [turnF,turnE,q]
   rw [← hbe,hsm]) h
  rw [tailE_s hi,tailT_s hi]
  apply turned
  cases sh with
  | true =>
   have hsm := of_decide_eq_true hsh.symm
   have hend : nBk d block ≤ i + 1 := by
    by_cases q : i + 1 < nBk d block
    ·have := (nBk_lt hb (i + 1)).mp q
     rw [hs1] at this
     rw [hbe,if_pos this] at hlen;exact κ2 [_,_] [_,_,_] (.Le ν0 (.a ν1 (.n 1))) (.lt (.c ν2) ξ0) (.eq (.c ν2) (.s (.a ξ1 ξ0) ξ1)) [0,1,-1] hsm hlen rfl
    ·exact ω1 [] [_,_] (.Le ν0 (.a ν1 (.n 1))) (.NLt (.a ν1 (.n 1)) ν0) q rfl
   rw [ϰaa hend,tailT_end hend,List.append_nil,Bool.or_false]
   have := P1 rfl
   rw [← hblk] at this
   have e : blkT d block check i = ((blk d block check i).t || decide (0 < ((blk d block check i).p.length : Int))) := by
    unfold blkT;rw [← hsh];simp
   rw [e];exact this
  | false =>
   have hsm := of_decide_eq_false hsh.symm
   have hbe' : be = ((i + 1 : Nat) : Int) * block := by
    rw [hs1];rw [hbe] at hlen ⊢;split
    ·rfl
    ·rename_i q;rw [if_neg q] at hlen;exact η3 [_,_] [_,_] (.eq (.c ν0) (.a ξ0 ξ1)) (.nlt (.a ξ0 ξ1) (.c ν0)) (.nlt (.c ν1) ξ1) (.eq (.c ν1) (.s (.c ν0) ξ0)) [1,0,1,1] [1,1,0,0] q hsm hlen rfl
   obtain ⟨p1,p2⟩ := P2 rfl
   rw [← hblk] at p1 p2
   have e : blkT d block check i = false := by unfold blkT;rw [← hsh,p1];simp
   rw [e,Bool.false_or]
   refine p2 _ _ ?_
   have := ih (i + 1) (by exact η3 [] [_,_,_,_,_] (.Eq ν0 ν1) (.Eq ν2 (.a ν1 (.n 1))) (.Eq (.a ν2 ν3) ν4) (.Eq (.a ν0 (.a ν3 (.n 1))) ν4) [1,-1,1,-1] [1,1,-1,1] hk (Nat.sub_add_cancel (Nat.le_of_lt hi)) (Nat.sub_add_cancel (Nat.succ_le_of_lt hi)) rfl) (by rw [← hbe'];exact hb1)
   rw [← hbe'] at this
   exact this
theorem reader_pieces {d : Y} {block check : Int} (hd : Byt d) (hb : 8 ≤ block) : Rem d block check 0 0 false (piecesF d block check).1 (piecesF d block check).2 := by
 rw [ϱA]
 have := blocks_rem (check := check) hd hb _ 0 rfl (by simp)
 simpa using this
noncomputable def wk (e : Ev) : Option Ev := if e.1 < 0 then none else some e
theorem fwd_pre : ∀ (es es' : List Ev) (b : Bool) (p : Y),(∀ e ∈ es,-2 ≤ e.1) → (∀ e ∈ es',-2 ≤ e.1) → es.map wk <+: es'.map wk → ((fwd es b p).recs <+: (fwd es' b p).recs)
 | [],es',b,p,_,_,_ => by simp [fwd]
 | e :: es,[],b,p,_,_,h => by simp at h
 | e :: es,e' :: es',b,p,h1,h2,h => by
  simp only [List.map_cons,List.cons_prefix_cons] at h
  obtain ⟨he,hp⟩ := h
  have i := fun b p => fwd_pre es es' b p (fun e he => h1 e (.tail _ he)) (fun e he => h2 e (.tail _ he)) hp
  have a1 := h1 e (.head _)
  have a2 := h2 e' (.head _)
  by_cases n : e.1 < 0
  ·have n' : e'.1 < 0 := by
    by_cases q : e'.1 < 0
    ·exact q
    ·simp [wk,n,q] at he
   have r : ∀ (x : Ev) (xs : List Ev),x.1 < 0 → -2 ≤ x.1 → (fwd (x :: xs) b p).recs = (fwd xs false []).recs := fun x xs hx hx2 => by
    have : x.1 = -2 ∨ x.1 = -1 := by omega
    rcases this with q | q <;> simp [fwd,q,Tot.add]
   rw [r e es n a1,r e' es' n' a2]
   exact i false []
  ·have n' : ¬ e'.1 < 0 := by
    intro q;simp [wk,n,q] at he
   have ee : e = e' := by simpa [wk,n,n'] using he
   subst ee
   by_cases k1 : e.1 = 1
   ·simp only [fwd,k1,if_true,Tot.add,Tot.rc,List.cons_prefix_cons,true_and];exact i false []
   by_cases k2 : e.1 = 2
   ·simp only [fwd,k1,k2,if_true,if_false,Tot.add,show ¬ (2 : Int) = 1 by decide];exact i true _
   by_cases k3 : e.1 = 3
   ·cases b
    ·simp only [fwd,k3,if_true,if_false,Tot.add,show ¬ (3 : Int) = 1 by decide,show ¬ (3 : Int) = 2 by decide,Bool.false_eq_true];exact i false []
    ·simp only [fwd,k3,if_true,if_false,Tot.add,show ¬ (3 : Int) = 1 by decide,show ¬ (3 : Int) = 2 by decide];exact i true _
   by_cases k4 : e.1 = 4
   ·cases b
    ·simp only [fwd,k4,if_true,if_false,Tot.add,show ¬ (4 : Int) = 1 by decide,show ¬ (4 : Int) = 2 by decide,show ¬ (4 : Int) = 3 by decide,Bool.false_eq_true];exact i false []
    ·simp only [fwd,k4,if_true,if_false,Tot.rc,show ¬ (4 : Int) = 1 by decide,show ¬ (4 : Int) = 2 by decide,show ¬ (4 : Int) = 3 by decide,List.cons_prefix_cons,true_and];exact i false []
   ·have q1 : ¬ e.1 = -2 := by exact fun hq => β2 [_] [] (.nlt ξ0 (.n 0)) (.eq ξ0 (.n (-2))) n' hq rfl
    have q2 : ¬ e.1 = -1 := by exact fun hq => β2 [_] [] (.nlt ξ0 (.n 0)) (.eq ξ0 (.n (-1))) n' hq rfl
    simp only [fwd,k1,k2,k3,k4,q1,q2,if_false,Tot.add];exact i false []
theorem getD_app {p q : Y} {i : Nat} (h : i < p.length) : (p ++ q).getD i 0 = p.getD i 0 := by
 rw [List.getD_eq_getElem?_getD,List.getD_eq_getElem?_getD,List.getElem?_append_left h]
theorem part_pre {check : Int} {sh' : Bool} : ∀ (n n' : Nat) (p q : Y) (up up' : Int),Byt p → p.length ≤ n → (p ++ q).length ≤ n' → up' = up + (q.length : Int) → ((pcs check true up n ⟨[],false,p⟩).f.map wk <+: (pcs check sh' up' n' ⟨[],false,p ++ q⟩).f.map wk)
 | 0,n',p,q,up,up',_,_,_,_ => by simp [pcs]
 | n + 1,n',p,q,up,up',hb,hn,hn',hu => by
  by_cases h7 : 7 ≤ (p.length : Int)
  ·have h7' : 7 ≤ ((p ++ q).length : Int) := by simp only [List.length_append];exact ω1 [] [_,_] (.le (.n 7) (.c (.a ν0 ν1))) (.le (.n 7) (.c ν0)) h7 rfl
   obtain ⟨m,rfl⟩ : ∃ m,n' = m + 1 := ⟨n' - 1,by simp only [List.length_append] at hn';exact η1 [] [_,_] (.Eq ν0 (.a ν1 (.n 1))) (.Eq (.a ν1 (.n 1)) ν0) [1,1] [1,-1] (Nat.sub_add_cancel (ω2 [] [_,_,_] (.Le (.n 1) ν0) (.Le (.a ν1 ν2) ν0) (.le (.n 7) (.c ν1)) hn' h7 rfl)) rfl⟩
   have e1 : pcs check true up (n + 1) ⟨[],false,p⟩ = pcs check true up n (pcStep check true up ⟨[],false,p⟩) := by simp only [pcs,if_pos h7]
   have e2 : pcs check sh' up' (m + 1) ⟨[],false,p ++ q⟩ = pcs check sh' up' m (pcStep check sh' up' ⟨[],false,p ++ q⟩) := by simp only [pcs,if_pos h7']
   have st : ∀ (n : Nat) (sh : Bool) (up : Int) (f : List Ev) (t : Bool),pcs check sh up n ⟨f,t,[]⟩ = ⟨f,t,[]⟩ := fun n sh up f t => ϱS (by simp)
   have d4 : (p ++ q).getD (4 : Int).toNat 0 = p.getD (4 : Int).toNat 0 := getD_app (by show 4 < p.length;exact ω1 [] [_] (.Lt (.n 4) ν0) (.le (.n 7) (.c ν0)) h7 rfl)
   have d5 : (p ++ q).getD (5 : Int).toNat 0 = p.getD (5 : Int).toNat 0 := getD_app (by show 5 < p.length;exact ω1 [] [_] (.Lt (.n 5) ν0) (.le (.n 7) (.c ν0)) h7 rfl)
   have sz : pSz (p ++ q) = pSz p := by unfold pSz;rw [d4,d5]
   have b4 := ϱT hb (4 : Int).toNat
   have b5 := ϱT hb (5 : Int).toNat
   have s7 : 7 ≤ pSz p := by unfold pSz;exact κ2 [_,_] [] (.le (.n 7) (.a (.a (.n 7) ξ0) (.m 256 ξ1))) (.le (.n 0) ξ1) (.le (.n 0) ξ0) [1,256,1] b5.1 b4.1 rfl
   by_cases hl : (p.length : Int) < pSz p
   ·rw [e1,pc1 hl rfl,st];simp
   ·have pp : pPc (p ++ q) = pPc p := by
     unfold pPc;rw [sz,ϰah _ (by exact δj s7 rfl),ϰah _ (by exact δj s7 rfl),List.take_append_of_le_length (by exact ω2 [_] [_,_] (.Le ν0 ν1) (.nlt (.c ν1) ξ0) (.eq (.c ν0) ξ0) hl (Int.toNat_of_nonneg (δj s7 rfl)) rfl)]
    have pb : pBd (p ++ q) = pBd p := by unfold pBd;rw [pp]
    have n1 : ∀ (x : Bool),¬ ((p.length : Int) < pSz p ∧ x = true) := fun x h => hl h.1
    have n2 : ∀ (x : Bool),¬ (((p ++ q).length : Int) < pSz (p ++ q) ∧ x = true) := fun x h => by rw [sz] at h;have := h.1;simp only [List.length_append] at this;exact β2 [_] [_,_] (.lt (.c (.a ν0 ν1)) ξ0) (.nlt (.c ν0) ξ0) this hl rfl
    by_cases hz : pSz p = 7 ∧ (pPc p).getD (6 : Int).toNat 0 = 0
    ·rw [e1,e2,pc2 (n1 _) hz.1 hz.2,pc2 (n2 _) (by rw [sz];exact hz.1) (by rw [pp];exact hz.2),st,st]
     exact List.prefix_refl _
    ·have hz' : ¬ (pSz (p ++ q) = 7 ∧ (pPc (p ++ q)).getD (6 : Int).toNat 0 = 0) := by rw [sz,pp];exact hz
     by_cases hf : fragY ((pPc p).getD (6 : Int).toNat 0) (pBd p) check = pPc p
     ·have a1 : ¬ ((p.length : Int) < pSz p ∨ fragY ((pPc p).getD (6 : Int).toNat 0) (pBd p) check ≠ pPc p) := by rintro (x | x);exact hl x;exact x hf
      have a2 : ¬ (((p ++ q).length : Int) < pSz (p ++ q) ∨ fragY ((pPc (p ++ q)).getD (6 : Int).toNat 0) (pBd (p ++ q)) check ≠ pPc (p ++ q)) := by
       rw [sz,pp,pb];rintro (x | x)
       ·simp only [List.length_append] at x;exact β2 [_] [_,_] (.lt (.c (.a ν0 ν1)) ξ0) (.nlt (.c ν0) ξ0) x hl rfl
       ·exact x hf
      rw [e1,e2,pc4 (n1 _) hz a1,pc4 (n2 _) hz' a2,ϰau n,ϰau m,sz,pp,pb]
      have c1 : cut p (some (pSz p)) none = p.drop (pSz p).toNat := ϱs _ (by exact δj s7 rfl)
      have c2 : cut (p ++ q) (some (pSz p)) none = p.drop (pSz p).toNat ++ q := by rw [ϱs _ (by exact δj s7 rfl),List.drop_append_of_le_length (by exact ω2 [_] [_,_] (.Le ν0 ν1) (.nlt (.c ν1) ξ0) (.eq (.c ν0) ξ0) hl (Int.toNat_of_nonneg (δj s7 rfl)) rfl)]
      rw [c1,c2]
      have he : up' - ((p.drop (pSz p).toNat ++ q).length : Int) = up - ((p.drop (pSz p).toNat).length : Int) := by rw [List.length_append];exact η1 [_,_] [_,_] (.eq (.s ξ0 (.c (.a ν0 ν1))) (.s ξ1 (.c ν0))) (.eq ξ0 (.a ξ1 (.c ν1))) [1,-1] [1,1] hu rfl
      rw [he]
      simp only [List.nil_append,List.map_append]
      refine List.prefix_append_right_inj _ |>.mpr ?_
      refine part_pre n m _ q up up' (fun x hx => hb x (List.mem_of_mem_drop hx)) (by rw [List.length_drop];omega) ?_ hu
      rw [← List.drop_append_of_le_length (by exact ω2 [_] [_,_] (.Le ν0 ν1) (.nlt (.c ν1) ξ0) (.eq (.c ν0) ξ0) hl (Int.toNat_of_nonneg (δj s7 rfl)) rfl),List.length_drop];omega
     ·rw [e1,e2,pc3 (n1 _) hz (.inr hf),pc3 (n2 _) hz' (by rw [pp,pb];exact .inr hf),st,st]
      simp [wk]
  ·have e1 : pcs check true up (n + 1) ⟨[],false,p⟩ = ⟨[],false,p⟩ := ϱS h7
   rw [e1];simp
theorem bk_full {d x : Y} {block : Int} {i : Nat} (hb : 8 ≤ block) (h : (i : Int) * block + block ≤ d.length) : bkPart (d ++ x) block i = bkPart d block i := by
 have h0 : 0 ≤ (i : Int) * block := Int.mul_nonneg (by exact δz _) (by exact δj hb rfl)
 rw [ϱv hb,ϱv hb]
 unfold sl
 rw [List.take_append_of_le_length (by exact ω2 [_,_] [_,_] (.Le ν0 ν1) (.le (.a ξ0 ξ1) (.c ν1)) (.eq (.c ν0) (.a ξ0 ξ1)) h (Int.toNat_of_nonneg (ω2 [_,_] [] (.le (.n 0) (.a ξ0 ξ1)) (.le (.n 0) ξ0) (.le (.n 8) ξ1) h0 hb rfl)) rfl)]
theorem bk_part {d x : Y} {block : Int} {i : Nat} (hb : 8 ≤ block) (h0 : (i : Int) * block ≤ d.length) (h : d.length < (i : Int) * block + block) : ∃ q,bkPart (d ++ x) block i = bkPart d block i ++ q := by
 have hn : 0 ≤ (i : Int) * block := Int.mul_nonneg (by exact δz _) (by exact ω2 [_,_] [_] (.le (.n 0) ξ0) (.lt (.c ν0) (.a ξ1 ξ0)) (.le ξ1 (.c ν0)) h h0 rfl)
 rw [ϱv hb,ϱv hb]
 unfold sl
 rw [List.take_append,List.take_of_length_le (l := d) (by exact ω2 [_,_] [_,_] (.Le ν0 ν1) (.lt (.c ν0) (.a ξ0 ξ1)) (.le (.a ξ0 ξ1) (.c ν1)) h (Int.self_le_toNat _) rfl),List.drop_append_of_le_length (by exact ω2 [_] [_,_] (.Le ν0 ν1) (.le ξ0 (.c ν1)) (.eq (.c ν0) ξ0) h0 (Int.toNat_of_nonneg (δj hn rfl)) rfl)]
 exact ⟨_,rfl⟩
theorem nBk_app {d x : Y} {block : Int} (hb : 8 ≤ block) {i : Nat} (h : i < nBk d block) : i < nBk (d ++ x) block := by
 rw [nBk_lt hb] at h ⊢;rw [List.length_append];exact ω1 [_] [_,_] (.lt ξ0 (.c (.a ν0 ν1))) (.lt ξ0 (.c ν0)) h rfl
theorem tail_pre {d x : Y} {block check : Int} (hd : Byt d) (hb : 8 ≤ block) : ∀ (k i : Nat),nBk d block - i = k → ((tailE d block check i).map wk <+: (tailE (d ++ x) block check i).map wk) := by
 intro k
 induction k with
 | zero => intro i hk;rw [ϰaa (by omega)];simp
 | succ k ih =>
  intro i hk
  have hi : i < nBk d block := by omega
  have hlt := (nBk_lt hb i).mp hi
  have h0 : 0 ≤ (i : Int) * block := Int.mul_nonneg (by exact δz _) (by exact δj hb rfl)
  have hs1 : ((i + 1 : Nat) : Int) * block = (i : Int) * block + block := by rw [Int.natCast_add,Int.add_mul];simp
  rw [tailE_s hi,tailE_s (nBk_app hb hi),List.map_append,List.map_append]
  by_cases hf : (i : Int) * block + block ≤ d.length
  ·have e : blk (d ++ x) block check i = blk d block check i := by unfold blk;rw [bk_full hb hf]
   rw [e]
   exact List.prefix_append_right_inj _ |>.mpr (ih (i + 1) (by exact η3 [] [_,_,_,_,_] (.Eq ν0 ν1) (.Eq ν2 (.a ν1 (.n 1))) (.Eq (.a ν2 ν3) ν4) (.Eq (.a ν0 (.a ν3 (.n 1))) ν4) [1,-1,1,-1] [1,1,-1,1] hk (Nat.sub_add_cancel (Nat.le_of_lt hi)) (Nat.sub_add_cancel (Nat.succ_le_of_lt hi)) rfl))
  ·have hend : nBk d block ≤ i + 1 := by
    by_cases q : i + 1 < nBk d block
    ·have := (nBk_lt hb (i + 1)).mp q
     rw [hs1] at this;exact κ2 [_,_] [_,_,_] (.Le ν0 (.a ν1 (.n 1))) (.lt (.a ξ0 ξ1) (.c ν2)) (.nle (.a ξ0 ξ1) (.c ν2)) [0,1,1] this hf rfl
    ·exact ω1 [] [_,_] (.Le ν0 (.a ν1 (.n 1))) (.NLt (.a ν1 (.n 1)) ν0) q rfl
   rw [ϰaa hend,List.map_nil,List.append_nil]
   obtain ⟨q,hq⟩ := bk_part (x := x) hb (by exact ω1 [_] [_] (.le ξ0 (.c ν0)) (.lt ξ0 (.c ν0)) hlt rfl) (show (d.length : Int) < (i : Int) * block + block by exact ω1 [_,_] [_] (.lt (.c ν0) (.a ξ0 ξ1)) (.nle (.a ξ0 ξ1) (.c ν0)) hf rfl)
   have hlen : ((bkPart d block i).length : Int) = d.length - (i : Int) * block := by
    rw [ϱv hb,sl_min,if_neg (by exact ω1 [_,_] [_] (.nlt (.a ξ0 ξ1) (.c ν0)) (.nle (.a ξ0 ξ1) (.c ν0)) hf rfl)];exact sl_len h0 (by exact ω1 [_] [_] (.le ξ0 (.c ν0)) (.lt ξ0 (.c ν0)) hlt rfl) (Int.le_refl _)
   have hsh : decide (((bkPart d block i).length : Int) < block) = true := decide_eq_true (by exact ω2 [_,_] [_,_] (.lt (.c ν0) ξ0) (.eq (.c ν0) (.s (.c ν1) ξ1)) (.nle (.a ξ1 ξ0) (.c ν1)) hlen hf rfl)
   refine List.IsPrefix.trans ?_ (List.prefix_append _ _)
   unfold blk
   rw [hsh,hq]
   refine part_pre _ _ _ q _ _ (by rw [ϱv hb];exact byt_sl hd _ _) (Nat.le_refl _) (Nat.le_refl _) ?_
   rw [List.length_append];exact η0 [_] [_,_] (.eq (.a (.a (.n 0) ξ0) (.c (.a ν0 ν1))) (.a (.a (.a (.n 0) ξ0) (.c ν0)) (.c ν1))) [1] [1] rfl
theorem pieces_pre {d x : Y} {block check : Int} (hd : Byt d) (hb : 8 ≤ block) : ((piecesF d block check).1.map wk <+: (piecesF (d ++ x) block check).1.map wk) := by
 rw [ϱA,ϱA]
 exact tail_pre hd hb _ 0 rfl
theorem emod_end {block pos : Int} (hb : 8 ≤ block) : (pos + (block - pos % block)) % block = 0 := by
 have e := Int.mul_ediv_add_emod pos block
 have : pos + (block - pos % block) = block * (pos / block + 1) := by rw [Int.mul_add,Int.mul_one];exact η1 [_,_,_,_] [] (.eq (.a ξ0 (.s ξ1 ξ2)) (.a ξ3 ξ1)) (.eq (.a ξ3 ξ2) ξ0) [1,1] [1,-1] e rfl
 rw [this,Int.mul_emod_right]
theorem emod_in {block pos k : Int} (hb : 8 ≤ block) (h0 : 0 ≤ k) (h : k < block - pos % block) : (pos + k) % block = pos % block + k := by
 have e := Int.mul_ediv_add_emod pos block
 have h1 := Int.emod_nonneg pos (show block ≠ 0 by exact fun hq => δF hb hq rfl)
 have : pos + k = (pos % block + k) + block * (pos / block) := by exact η1 [_,_,_,_] [] (.eq (.a ξ0 ξ1) (.a (.a ξ2 ξ1) ξ3)) (.eq (.a ξ3 ξ2) ξ0) [1,1] [1,-1] e rfl
 rw [this,Int.add_mul_emod_self_left]
 exact Int.emod_eq_of_lt (by exact ω2 [_,_] [] (.le (.n 0) (.a ξ0 ξ1)) (.le (.n 0) ξ0) (.le (.n 0) ξ1) h1 h0 rfl) (by exact ω1 [_,_,_] [] (.lt (.a ξ0 ξ1) ξ2) (.lt ξ1 (.s ξ2 ξ0)) h rfl)
inductive Wr (block check : Int) : Int → Y → List Ev → Prop
 | nil (pos) : Wr block check pos [] []
 | fill {pos x es} (h : block - pos % block < 7) (t : Wr block check (pos + (block - pos % block)) x es) : Wr block check pos (List.replicate (block - pos % block).toNat 0 ++ x) es
 | frag {pos k y x es} (hr : 7 + (y.length : Int) ≤ block - pos % block) (hk : 1 ≤ k ∧ k ≤ 4) (t : Wr block check (pos + (7 + (y.length : Int))) x es) : Wr block check pos (fragY k y check ++ x) ((k,y,pos + (7 + (y.length : Int))) :: es)
theorem Wr.append {block check pos : Int} {x : Y} {es : List Ev} (hb : 8 ≤ block) (h : Wr block check pos x es) : ∀ {x' : Y} {es' : List Ev},Wr block check (pos + (x.length : Int)) x' es' → Wr block check pos (x ++ x') (es ++ es') := by
 induction h with
 | nil pos => intro x' es' h;simpa using h
 | fill h t ih =>
  rename_i pos x es
  intro x' es' h'
  have hm := Int.emod_lt_of_pos pos (show 0 < block by exact δl hb rfl)
  rw [List.append_assoc]
  refine .fill h (ih ?_)
  have : pos + ((List.replicate (block - pos % block).toNat (0 : Int) ++ x).length : Int) = pos + (block - pos % block) + (x.length : Int) := by
   rw [List.length_append,List.length_replicate];exact η2 [_,_,_] [_,_] (.eq (.a ξ0 (.c (.a ν0 ν1))) (.a (.a ξ0 (.s ξ1 ξ2)) (.c ν1))) (.eq (.c ν0) (.s ξ1 ξ2)) (.le (.s ξ1 ξ2) (.c ν0)) [1,0,1] [1,1,0] (Int.toNat_of_nonneg (δE hm rfl)) (Int.self_le_toNat _) rfl
  rw [← this];exact h'
 | frag hr hk t ih =>
  rename_i pos k y x es
  intro x' es' h'
  rw [List.append_assoc]
  refine .frag hr hk (ih ?_)
  have : pos + ((fragY k y check ++ x).length : Int) = pos + (7 + (y.length : Int)) + (x.length : Int) := by
   rw [List.length_append,ϰB];exact η0 [_] [_,_] (.eq (.a ξ0 (.c (.a (.a ν0 (.n 7)) ν1))) (.a (.a ξ0 (.a (.n 7) (.c ν0))) (.c ν1))) [1] [1] rfl
  rw [← this];exact h'
noncomputable def adj (block pos : Int) : Int := if block - pos % block < 7 then pos + (block - pos % block) else pos
theorem adj_le {block pos : Int} (hb : 8 ≤ block) : pos ≤ adj block pos := by
 have hm := Int.emod_lt_of_pos pos (show 0 < block by exact δl hb rfl)
 unfold adj;split <;> (first | exact ω1 [_,_,_] [] (.le ξ0 (.a ξ0 (.s ξ1 ξ2))) (.lt ξ2 ξ1) hm rfl | exact κ0 [_] [] (.le ξ0 ξ0) [1] rfl)
theorem Wr.ends {block check pos : Int} {x : Y} {es : List Ev} (hb : 8 ≤ block) (h : Wr block check pos x es) : ∀ e ∈ es,adj block pos + 7 ≤ e.2.2 := by
 induction h with
 | nil pos => intro e he;cases he
 | fill h t ih =>
  rename_i pos x es
  intro e he
  have := ih e he
  have a := adj_le (block := block) (pos := pos + (block - pos % block)) hb
  have : adj block pos = pos + (block - pos % block) := by unfold adj;rw [if_pos h]
  exact ω3 [_,_,_,_,_,_] [] (.le (.a ξ0 (.n 7)) ξ1) (.eq ξ0 (.a ξ2 (.s ξ3 ξ4))) (.le (.a ξ2 (.s ξ3 ξ4)) ξ5) (.le (.a ξ5 (.n 7)) ξ1) this a (by assumption) rfl
 | frag hr hk t ih =>
  rename_i pos k y x es
  intro e he
  have ha : adj block pos = pos := by unfold adj;rw [if_neg (by exact ω1 [_,_] [_] (.nlt (.s ξ0 ξ1) (.n 7)) (.le (.a (.n 7) (.c ν0)) (.s ξ0 ξ1)) hr rfl)]
  rcases List.mem_cons.mp he with rfl | he
  ·dsimp only;exact ω1 [_,_] [_] (.le (.a ξ0 (.n 7)) (.a ξ1 (.a (.n 7) (.c ν0)))) (.eq ξ0 ξ1) ha rfl
  ·have := ih e he
   have a := adj_le (block := block) (pos := pos + (7 + (y.length : Int))) hb
   exact ω3 [_,_,_,_] [_] (.le (.a ξ0 (.n 7)) ξ1) (.le (.a ξ2 (.a (.n 7) (.c ν0))) ξ3) (.le (.a ξ3 (.n 7)) ξ1) (.eq ξ0 ξ2) a this ha rfl
theorem Wr.kinds {block check pos : Int} {x : Y} {es : List Ev} (h : Wr block check pos x es) : ∀ e ∈ es,1 ≤ e.1 ∧ e.1 ≤ 4 := by
 induction h with
 | nil pos => intro e he;cases he
 | fill h t ih => exact ih
 | frag hr hk t ih =>
  intro e he
  rcases List.mem_cons.mp he with rfl | he
  ·exact hk
  ·exact ih e he
theorem frag_head {k check : Int} {y q : Y} (hy : (y.length : Int) < 60000) : (fragY k y check ++ q).getD (4 : Int).toNat 0 = (y.length : Int) % 256 ∧ (fragY k y check ++ q).getD (5 : Int).toNat 0 = (y.length : Int) / 256 ∧ (fragY k y check).getD (6 : Int).toNat 0 = k := ⟨rfl,rfl,rfl⟩
theorem frag_body {k check : Int} {y : Y} : (fragY k y check).drop 7 = y := rfl
theorem t7L (n : Nat) : (7 + (n : Int)).toNat = n + 7 := by rw [Int.add_comm];rfl
theorem ws_part {block check : Int} (hb : 8 ≤ block) (hb1 : block ≤ 31) {pos : Int} {x : Y} {es : List Ev} (h : Wr block check pos x es) : ∀ (n : Nat) (sh : Bool) (up : Int),(x.take (block - pos % block).toNat).length ≤ n → up = pos + ((x.take (block - pos % block).toNat).length : Int) →
  ∃ es1 es2 r,pcs check sh up n ⟨[],false,x.take (block - pos % block).toNat⟩ = ⟨es1,false,r⟩ ∧ es = es1 ++ es2 ∧ Wr block check (pos + (block - pos % block)) (x.drop (block - pos % block).toNat) es2 ∧ ((x.length : Int) < block - pos % block → r = [] ∧ es2 = []) ∧ (∀ e ∈ es1,e.2.2 ≤ pos + (block - pos % block)) := by
 induction h with
 | nil pos =>
  intro n sh up hn hu
  have e : pcs check sh up n ⟨[],false,List.take (block - pos % block).toNat []⟩ = ⟨[],false,[]⟩ := by rw [List.take_nil];exact ϱS (by simp)
  exact ⟨[],[],[],e,rfl,by rw [List.drop_nil];exact .nil _,fun _ => ⟨rfl,rfl⟩,fun e he => nomatch he⟩
 | fill h t ih =>
  rename_i pos x es
  intro n sh up hn hu
  have hm := Int.emod_lt_of_pos pos (show 0 < block by exact δl hb rfl)
  have e1 : (List.replicate (block - pos % block).toNat (0 : Int) ++ x).take (block - pos % block).toNat = List.replicate (block - pos % block).toNat 0 := by
   rw [List.take_append_of_le_length (by simp),List.take_of_length_le (by simp)]
  have e2 : (List.replicate (block - pos % block).toNat (0 : Int) ++ x).drop (block - pos % block).toNat = x := by
   rw [List.drop_append_of_le_length (by simp),List.drop_of_length_le (by simp)];rfl
  refine ⟨[],es,_,by rw [e1];exact ϱS (by rw [List.length_replicate];exact ω2 [_,_] [_] (.nle (.n 7) (.c ν0)) (.lt (.s ξ0 ξ1) (.n 7)) (.eq (.c ν0) (.s ξ0 ξ1)) h (Int.toNat_of_nonneg (δE hm rfl)) rfl),rfl,by rw [e2];exact t,fun hx => ?_,fun e he => nomatch he⟩
  rw [List.length_append,List.length_replicate] at hx;omega
 | frag hr hk t ih =>
  rename_i pos k y x es
  intro n sh up hn hu
  have hm0 := Int.emod_nonneg pos (show block ≠ 0 by exact fun hq => δF hb hq rfl)
  have hm := Int.emod_lt_of_pos pos (show 0 < block by exact δl hb rfl)
  have hfl : (fragY k y check).length = y.length + 7 := ϰB _ _ _
  obtain ⟨r,hrr⟩ : ∃ r : Nat,r = (block - pos % block).toNat := ⟨_,rfl⟩
  rw [← hrr] at hn hu ⊢
  have e1 : (fragY k y check ++ x).take r = fragY k y check ++ x.take (r - (y.length + 7)) := by
   rw [List.take_append,List.take_of_length_le (by exact κ4 [_,_] [_,_,_,_] (.Le ν0 ν1) (.Eq ν1 ν2) (.Eq ν0 (.a ν3 (.n 7))) (.le (.a (.n 7) (.c ν3)) (.s ξ0 ξ1)) (.le (.s ξ0 ξ1) (.c ν2)) [1,-1,1,1,1] hrr hfl hr (Int.self_le_toNat _) rfl),hfl]
  have e2 : (fragY k y check ++ x).drop r = x.drop (r - (y.length + 7)) := by
   rw [List.drop_append,List.drop_of_length_le (by exact κ4 [_,_] [_,_,_,_] (.Le ν0 ν1) (.Eq ν1 ν2) (.Eq ν0 (.a ν3 (.n 7))) (.le (.a (.n 7) (.c ν3)) (.s ξ0 ξ1)) (.le (.s ξ0 ξ1) (.c ν2)) [1,-1,1,1,1] hrr hfl hr (Int.self_le_toNat _) rfl),hfl];rfl
  rw [e1] at hn hu
  have hl7 : 7 ≤ ((fragY k y check ++ x.take (r - (y.length + 7))).length : Int) := by rw [List.length_append,hfl];exact κ0 [] [_,_] (.le (.n 7) (.c (.a (.a ν0 (.n 7)) ν1))) [1] rfl
  obtain ⟨m,rfl⟩ : ∃ m,n = m + 1 := ⟨n - 1,by exact η1 [] [_,_] (.Eq ν0 (.a ν1 (.n 1))) (.Eq (.a ν1 (.n 1)) ν0) [1,1] [1,-1] (Nat.sub_add_cancel (ω2 [] [_,_] (.Le (.n 1) ν0) (.le (.n 7) (.c ν1)) (.Le ν1 ν0) hl7 hn rfl)) rfl⟩
  have hy : (y.length : Int) < 60000 := by exact ω3 [_,_] [_] (.lt (.c ν0) (.n 60000)) (.le (.n 0) ξ0) (.le (.a (.n 7) (.c ν0)) (.s ξ1 ξ0)) (.le ξ1 (.n 31)) hm0 hr hb1 rfl
  obtain ⟨g4,g5,g6⟩ := frag_head (k := k) (check := check) (q := x.take (r - (y.length + 7))) hy
  have sz : pSz (fragY k y check ++ x.take (r - (y.length + 7))) = 7 + (y.length : Int) := by unfold pSz;rw [g4,g5];exact η1 [_,_] [_] (.eq (.a (.a (.n 7) ξ0) (.m 256 ξ1)) (.a (.n 7) (.c ν0))) (.eq (.a (.m 256 ξ1) ξ0) (.c ν0)) [1,-1] [1,1] (Int.mul_ediv_add_emod _ _) rfl
  have hpc : pPc (fragY k y check ++ x.take (r - (y.length + 7))) = fragY k y check := by
   unfold pPc;rw [sz,ϰah _ (by exact κ0 [] [_] (.le (.n 0) (.a (.n 7) (.c ν0))) [1] rfl),List.take_append_of_le_length (by exact κ2 [] [_,_,_] (.Le ν0 ν1) (.Eq ν1 (.a ν2 (.n 7))) (.eq (.c ν0) (.a (.n 7) (.c ν2))) [1,-1,1] hfl (Int.toNat_of_nonneg (κ0 [] [_] (.le (.n 0) (.a (.n 7) (.c ν0))) [1] rfl)) rfl),List.take_of_length_le (by exact ω2 [] [_,_,_] (.Le ν0 ν1) (.Eq ν0 (.a ν2 (.n 7))) (.le (.a (.n 7) (.c ν2)) (.c ν1)) hfl (Int.self_le_toNat _) rfl)]
  have hbd : pBd (fragY k y check ++ x.take (r - (y.length + 7))) = y := by unfold pBd;rw [hpc,ϱs _ (by decide)];rfl
  have hct : cut (fragY k y check ++ x.take (r - (y.length + 7))) (some (pSz (fragY k y check ++ x.take (r - (y.length + 7))))) none = x.take (r - (y.length + 7)) := by
   rw [sz,ϱs _ (by exact κ0 [] [_] (.le (.n 0) (.a (.n 7) (.c ν0))) [1] rfl),List.drop_append,List.drop_of_length_le (by exact ω2 [] [_,_,_] (.Le ν0 ν1) (.Eq ν0 (.a ν2 (.n 7))) (.le (.a (.n 7) (.c ν2)) (.c ν1)) hfl (Int.self_le_toNat _) rfl),hfl]
   have : (7 + (y.length : Int)).toNat - (y.length + 7) = 0 := by rw [t7L,Nat.sub_self]
   rw [this];rfl
  have n1 : ¬ (((fragY k y check ++ x.take (r - (y.length + 7))).length : Int) < pSz (fragY k y check ++ x.take (r - (y.length + 7))) ∧ sh = true) := fun z => by
   have := z.1;rw [sz,List.length_append,hfl] at this;exact β1 [] [_,_] (.lt (.c (.a (.a ν0 (.n 7)) ν1)) (.a (.n 7) (.c ν0))) this rfl
  have n2 : ¬ (pSz (fragY k y check ++ x.take (r - (y.length + 7))) = 7 ∧ (pPc (fragY k y check ++ x.take (r - (y.length + 7)))).getD (6 : Int).toNat 0 = 0) := fun z => by
   have := z.2;rw [hpc,g6] at this;exact β2 [_] [] (.eq ξ0 (.n 0)) (.le (.n 1) ξ0) this hk.1 rfl
  have n3 : ¬ (((fragY k y check ++ x.take (r - (y.length + 7))).length : Int) < pSz (fragY k y check ++ x.take (r - (y.length + 7))) ∨ fragY ((pPc (fragY k y check ++ x.take (r - (y.length + 7)))).getD (6 : Int).toNat 0) (pBd (fragY k y check ++ x.take (r - (y.length + 7)))) check ≠ pPc (fragY k y check ++ x.take (r - (y.length + 7)))) := by
   rw [hpc,hbd,g6];rintro (z | z)
   ·rw [sz,List.length_append,hfl] at z;exact β1 [] [_,_] (.lt (.c (.a (.a ν0 (.n 7)) ν1)) (.a (.n 7) (.c ν0))) z rfl
   ·exact z rfl
  have hup : up - ((x.take (r - (y.length + 7))).length : Int) = pos + (7 + (y.length : Int)) := by rw [hu,List.length_append,hfl];exact η0 [_] [_,_] (.eq (.s (.a ξ0 (.c (.a (.a ν0 (.n 7)) ν1))) (.c ν1)) (.a ξ0 (.a (.n 7) (.c ν0)))) [1] [1] rfl
  have st : pcs check sh up (m + 1) ⟨[],false,fragY k y check ++ x.take (r - (y.length + 7))⟩ = pcs check sh up m ⟨[(k,y,pos + (7 + (y.length : Int)))],false,x.take (r - (y.length + 7))⟩ := by
   simp only [pcs,if_pos hl7]
   rw [pc4 n1 n2 n3,hpc,hbd,g6,hct,hup];rfl
  rw [e1,e2,st,ϰau]
  by_cases hfull : 7 + (y.length : Int) = block - pos % block
  ·-- the piece fills the block
   have z : r - (y.length + 7) = 0 := by exact Nat.le_antisymm (κ4 [_,_] [_,_,_,_] (.Le ν0 (.n 0)) (.eq (.a (.n 7) (.c ν1)) (.s ξ0 ξ1)) (.Eq ν2 ν3) (.eq (.c ν3) (.s ξ0 ξ1)) (.Eq (.a ν0 (.a ν1 (.n 7))) ν2) [1,-1,1,1,1] hfull hrr (Int.toNat_of_nonneg (δE hm rfl)) (Nat.sub_add_cancel (κ3 [_,_] [_,_,_] (.Le (.a ν0 (.n 7)) ν1) (.eq (.a (.n 7) (.c ν0)) (.s ξ0 ξ1)) (.Eq ν1 ν2) (.le (.s ξ0 ξ1) (.c ν2)) [1,1,-1,1] hfull hrr (Int.self_le_toNat _) rfl)) rfl) (Nat.zero_le _)
   rw [z,List.take_zero,List.drop_zero]
   have e0 : pcs check sh up m ⟨[],false,[]⟩ = ⟨[],false,[]⟩ := ϱS (by simp)
   rw [e0]
   refine ⟨[(k,y,pos + (7 + (y.length : Int)))],es,[],rfl,rfl,by rw [← hfull];exact t,fun hx => ?_,fun e he => ?_⟩
   ·rw [List.length_append,hfl] at hx;omega
   ·have := List.mem_singleton.mp he;subst this;dsimp only;exact ω1 [_,_,_] [_] (.le (.a ξ0 (.a (.n 7) (.c ν0))) (.a ξ0 (.s ξ1 ξ2))) (.eq (.a (.n 7) (.c ν0)) (.s ξ1 ξ2)) hfull rfl
  ·have hin := emod_in (block := block) (pos := pos) (k := 7 + (y.length : Int)) hb (by exact κ0 [] [_] (.le (.n 0) (.a (.n 7) (.c ν0))) [1] rfl) (by omega)
   have hr' : (block - (pos + (7 + (y.length : Int))) % block).toNat = r - (y.length + 7) := by rw [hin];exact Nat.le_antisymm (κ4 [_,_] [_,_,_,_,_] (.Le ν0 ν1) (.Eq ν2 ν3) (.le (.s ξ0 ξ1) (.c ν3)) (.eq (.c ν0) (.s ξ0 (.a ξ1 (.a (.n 7) (.c ν4))))) (.Eq (.a ν1 (.a ν4 (.n 7))) ν2) [1,-1,1,1,-1] hrr (Int.self_le_toNat _) (Int.toNat_of_nonneg (ω1 [_,_] [_] (.le (.n 0) (.s ξ0 (.a ξ1 (.a (.n 7) (.c ν0))))) (.le (.a (.n 7) (.c ν0)) (.s ξ0 ξ1)) hr rfl)) (Nat.sub_add_cancel (κ3 [_,_] [_,_,_] (.Le (.a ν0 (.n 7)) ν1) (.Eq ν1 ν2) (.le (.a (.n 7) (.c ν0)) (.s ξ0 ξ1)) (.le (.s ξ0 ξ1) (.c ν2)) [1,-1,1,1] hrr hr (Int.self_le_toNat _) rfl)) rfl) (ω4 [_,_] [_,_,_,_,_] (.Le ν0 ν1) (.Eq ν2 ν3) (.eq (.c ν3) (.s ξ0 ξ1)) (.le (.s ξ0 (.a ξ1 (.a (.n 7) (.c ν4)))) (.c ν1)) (.Eq (.a ν0 (.a ν4 (.n 7))) ν2) hrr (Int.toNat_of_nonneg (δE hm rfl)) (Int.self_le_toNat _) (Nat.sub_add_cancel (κ3 [_,_] [_,_,_] (.Le (.a ν0 (.n 7)) ν1) (.Eq ν1 ν2) (.le (.a (.n 7) (.c ν0)) (.s ξ0 ξ1)) (.le (.s ξ0 ξ1) (.c ν2)) [1,-1,1,1] hrr hr (Int.self_le_toNat _) rfl)) rfl)
   have hp' : pos + (7 + (y.length : Int)) + (block - (pos + (7 + (y.length : Int))) % block) = pos + (block - pos % block) := by rw [hin];exact η0 [_,_,_] [_] (.eq (.a (.a ξ0 (.a (.n 7) (.c ν0))) (.s ξ1 (.a ξ2 (.a (.n 7) (.c ν0))))) (.a ξ0 (.s ξ1 ξ2))) [1] [1] rfl
   obtain ⟨es1,es2,rr,q1,q2,q3,q4,q5⟩ := ih m sh up (by rw [hr'];rw [List.length_append,hfl] at hn;exact ω1 [] [_,_,_] (.Le ν0 ν1) (.Le (.a (.a ν2 (.n 7)) ν0) (.a ν1 (.n 1))) hn rfl) (by rw [hr',← hup];exact η0 [_] [_] (.eq ξ0 (.a (.s ξ0 (.c ν0)) (.c ν0))) [1] [1] rfl)
   rw [hr'] at q1 q3
   rw [hp'] at q3 q5
   rw [q1]
   refine ⟨(k,y,pos + (7 + (y.length : Int))) :: es1,es2,rr,rfl,by rw [q2];rfl,q3,fun hx => q4 (by rw [hin];rw [List.length_append,hfl] at hx;exact ω1 [_,_] [_,_] (.lt (.c ν0) (.s ξ0 (.a ξ1 (.a (.n 7) (.c ν1))))) (.lt (.c (.a (.a ν1 (.n 7)) ν0)) (.s ξ0 ξ1)) hx rfl),fun e he => ?_⟩
   rcases List.mem_cons.mp he with rfl | he
   ·dsimp only;exact ω1 [_,_,_] [_] (.le (.a ξ0 (.a (.n 7) (.c ν0))) (.a ξ0 (.s ξ1 ξ2))) (.le (.a (.n 7) (.c ν0)) (.s ξ1 ξ2)) hr rfl
   ·exact q5 e he
theorem ws_blocks {block check : Int} {d : Y} (hb : 8 ≤ block) (hb1 : block ≤ 31) : ∀ (k i : Nat) (es : List Ev),nBk d block - i = k → Wr block check ((i : Int) * block) (d.drop ((i : Int) * block).toNat) es → tailE d block check i = es ∧ tailT d block check i = false := by
 intro k
 induction k with
 | zero =>
  intro i es hk h
  have hn : nBk d block ≤ i := by omega
  have hge : ¬ (i : Int) * block < d.length := fun q => by have := (nBk_lt hb i).mpr q;exact β2 [] [_,_] (.Lt ν0 ν1) (.Le ν1 ν0) this hn rfl
  rw [ϰaa hn,tailT_end hn]
  have e : d.drop ((i : Int) * block).toNat = [] := List.drop_of_length_le (by exact ω2 [_] [_,_] (.Le ν0 ν1) (.nlt ξ0 (.c ν0)) (.le ξ0 (.c ν1)) hge (Int.self_le_toNat _) rfl)
  rw [e] at h
  refine ⟨?_,rfl⟩
  generalize hx : ([] : Y) = x at h
  cases h with
  | nil => rfl
  | fill hh t =>
   exfalso
   have hm := Int.emod_lt_of_pos ((i : Int) * block) (show 0 < block by exact δl hb rfl)
   have := congrArg List.length hx
   rw [List.length_append,List.length_replicate,List.length_nil] at this;exact φ3 [_,_] [_,_] (.Eq (.n 0) (.a ν0 ν1)) (.lt ξ0 ξ1) (.le (.s ξ1 ξ0) (.c ν0)) [-1,1,1] this hm (Int.self_le_toNat _) rfl
  | frag hr hk t =>
   exfalso
   have := congrArg List.length hx
   rw [List.length_append,ϰB,List.length_nil] at this;exact φ1 [] [_,_] (.Eq (.n 0) (.a (.a ν0 (.n 7)) ν1)) [-1] this rfl
 | succ k ih =>
  intro i es hk h
  have hi : i < nBk d block := by omega
  have hlt := (nBk_lt hb i).mp hi
  have h0 : 0 ≤ (i : Int) * block := Int.mul_nonneg (by exact δz _) (by exact δj hb rfl)
  have hs1 : ((i + 1 : Nat) : Int) * block = (i : Int) * block + block := by rw [Int.natCast_add,Int.add_mul];simp
  have hm : (i : Int) * block % block = 0 := Int.mul_emod_left _ _
  have hpart : bkPart d block i = (d.drop ((i : Int) * block).toNat).take (block - (i : Int) * block % block).toNat := by
   rw [ϱv hb,hm];unfold sl
   rw [List.take_drop]
   congr 2;exact Nat.le_antisymm (ω3 [_,_] [_,_,_] (.Le ν0 (.a ν1 ν2)) (.eq (.c ν0) (.a ξ0 ξ1)) (.le ξ0 (.c ν1)) (.le (.s ξ1 (.n 0)) (.c ν2)) (Int.toNat_of_nonneg (ω2 [_,_] [] (.le (.n 0) (.a ξ0 ξ1)) (.le (.n 0) ξ0) (.le (.n 8) ξ1) h0 hb rfl)) (Int.self_le_toNat _) (Int.self_le_toNat _) rfl) (ω3 [_,_] [_,_,_] (.Le (.a ν0 ν1) ν2) (.le (.a ξ0 ξ1) (.c ν2)) (.eq (.c ν0) ξ0) (.eq (.c ν1) (.s ξ1 (.n 0))) (Int.self_le_toNat _) (Int.toNat_of_nonneg (δj h0 rfl)) (Int.toNat_of_nonneg (ω1 [_] [] (.le (.n 0) (.s ξ0 (.n 0))) (.le (.n 8) ξ0) hb rfl)) rfl)
  obtain ⟨es1,es2,r,q1,q2,q3,q4,q5⟩ := ws_part hb hb1 h (bkPart d block i).length (decide (((bkPart d block i).length : Int) < block)) (0 + (i : Int) * block + ((bkPart d block i).length : Int)) (by rw [hpart];exact Nat.le_refl _) (by rw [hpart];exact η0 [_] [_] (.eq (.a (.a (.n 0) ξ0) (.c ν0)) (.a ξ0 (.c ν0))) [1] [1] rfl)
  rw [← hpart] at q1
  have hblk : blk d block check i = ⟨es1,false,r⟩ := by unfold blk;exact q1
  have hdrop : (d.drop ((i : Int) * block).toNat).drop (block - (i : Int) * block % block).toNat = d.drop (((i + 1 : Nat) : Int) * block).toNat := by
   rw [List.drop_drop,hm,hs1];congr 1;exact Nat.le_antisymm (ω3 [_,_] [_,_,_] (.Le (.a ν0 ν1) ν2) (.eq (.c ν0) ξ0) (.eq (.c ν1) (.s ξ1 (.n 0))) (.le (.a ξ0 ξ1) (.c ν2)) (Int.toNat_of_nonneg (δj h0 rfl)) (Int.toNat_of_nonneg (ω1 [_] [] (.le (.n 0) (.s ξ0 (.n 0))) (.le (.n 8) ξ0) hb rfl)) (Int.self_le_toNat _) rfl) (ω3 [_,_] [_,_,_] (.Le ν0 (.a ν1 ν2)) (.le ξ0 (.c ν1)) (.le (.s ξ1 (.n 0)) (.c ν2)) (.eq (.c ν0) (.a ξ0 ξ1)) (Int.self_le_toNat _) (Int.self_le_toNat _) (Int.toNat_of_nonneg (ω2 [_,_] [] (.le (.n 0) (.a ξ0 ξ1)) (.le (.n 0) ξ0) (.le (.n 8) ξ1) h0 hb rfl)) rfl)
  rw [hdrop,hm] at q3
  have hpos : (i : Int) * block + (block - 0) = ((i + 1 : Nat) : Int) * block := by rw [hs1];exact η0 [_,_] [] (.eq (.a ξ0 (.s ξ1 (.n 0))) (.a ξ0 ξ1)) [1] [1] rfl
  rw [hpos] at q3
  obtain ⟨i1,i2⟩ := ih (i + 1) es2 (by exact η3 [] [_,_,_,_,_] (.Eq ν0 ν1) (.Eq ν2 (.a ν1 (.n 1))) (.Eq (.a ν2 ν3) ν4) (.Eq (.a ν0 (.a ν3 (.n 1))) ν4) [1,-1,1,-1] [1,1,-1,1] hk (Nat.sub_add_cancel (Nat.le_of_lt hi)) (Nat.sub_add_cancel (Nat.succ_le_of_lt hi)) rfl) q3
  rw [tailE_s hi,tailT_s hi,hblk,i1,i2,q2]
  refine ⟨rfl,?_⟩
  unfold blkT
  rw [hblk]
  by_cases hsh : ((bkPart d block i).length : Int) < block
  ·have hlx : ((d.drop ((i : Int) * block).toNat).length : Int) < block - (i : Int) * block % block := by
    rw [hm];rw [hpart,List.length_take,hm] at hsh;omega
   obtain ⟨rfl,_⟩ := q4 hlx
   simp
  ·rw [decide_eq_false hsh];simp
inductive Grp : Bool → Y → List Ev → Prop
 | full {y x} : Grp false y [(1,y,x)]
 | first {y1 y2 x es} (h : Grp true y2 es) : Grp false (y1 ++ y2) ((2,y1,x) :: es)
 | last {y x} : Grp true y [(4,y,x)]
 | mid {y1 y2 x es} (h : Grp true y2 es) : Grp true (y1 ++ y2) ((3,y1,x) :: es)
theorem grp_true {b : Bool} {y : Y} {es : List Ev} (h : Grp b y es) : b = true → ∀ rest p,∃ x,fwd (es ++ rest) true p = (fwd rest false []).rc (p ++ y,x) := by
 induction h with
 | full => intro e;cases e
 | first h ih => intro e;cases e
 | last => rename_i y x;intro _ rest p;exact ⟨x,by simp [fwd]⟩
 | mid h ih =>
  rename_i y1 y2 x es
  intro _ rest p
  obtain ⟨x',hx⟩ := ih rfl rest (p ++ y1)
  exact ⟨x',by simp only [List.cons_append,fwd,show ¬ (3 : Int) = 1 by decide,show ¬ (3 : Int) = 2 by decide,if_true,if_false,hx,List.append_assoc]⟩
theorem grp_false {b : Bool} {y : Y} {es : List Ev} (h : Grp b y es) : b = false → ∀ rest,∃ x,fwd (es ++ rest) false [] = (fwd rest false []).rc (y,x) ∧ ∀ b p,(fwd (es ++ rest) b p).recs = (y,x) :: (fwd rest false []).recs := by
 intro e rest
 cases h with
 | full => rename_i x;exact ⟨x,by simp [fwd,Tot.add,Tot.rc],fun b p => by simp [fwd,Tot.add,Tot.rc]⟩
 | first h =>
  rename_i y1 y2 x es
  obtain ⟨x',hx⟩ := grp_true h rfl rest y1
  refine ⟨x',?_,fun b p => ?_⟩
  ·simp only [List.cons_append,fwd,show ¬ (2 : Int) = 1 by decide,if_true,if_false,hx,Bool.false_eq_true]
   refine Tot.eq rfl ?_ ?_ ?_ rfl <;> simp [Tot.add,Tot.rc]
  ·simp only [List.cons_append,fwd,show ¬ (2 : Int) = 1 by decide,if_true,if_false,hx,Tot.add,Tot.rc]
 | last => cases e
 | mid h => cases e
inductive RL : List Y → List Ev → Prop
 | nil : RL [] []
 | cons {y rs es es'} (h : Grp false y es) (t : RL rs es') : RL (y :: rs) (es ++ es')
theorem RL.append {rs : List Y} {es : List Ev} (h : RL rs es) : ∀ {rs' : List Y} {es' : List Ev},RL rs' es' → RL (rs ++ rs') (es ++ es') := by
 induction h with
 | nil => intro _ _ h;exact h
 | cons h t ih => intro rs' es' h';rw [List.append_assoc];exact .cons h (ih h')
theorem RL.one {y : Y} {es : List Ev} (h : Grp false y es) : RL [y] es := by have := RL.cons h .nil;simpa using this
theorem RL.recs {rs : List Y} {es : List Ev} (h : RL rs es) : (∀ b p,(fwd es b p).recs.map (·.1) = rs) ∧ (fwd es false []).lost = 0 ∧ (fwd es false []).whys = 0 ∧ (fwd es false []).breaks = 0 ∧ (fwd es false []).oe = false := by
 induction h with
 | nil => exact ⟨fun b p => rfl,rfl,rfl,rfl,rfl⟩
 | cons h t ih =>
  obtain ⟨i1,i2,i3,i4,i5⟩ := ih
  rename_i y rs es es'
  obtain ⟨x,h1,h2⟩ := grp_false h rfl es'
  refine ⟨fun b p => ?_,?_,?_,?_,?_⟩
  ·rw [h2,List.map_cons,i1]
  all_goals (rw [h1];assumption)
theorem fwd_app : ∀ (es es' : List Ev) (b : Bool) (p : Y),∃ X b' p',(fwd (es ++ es') b p).recs = X ++ (fwd es' b' p').recs
 | [],es',b,p => ⟨[],b,p,rfl⟩
 | e :: es,es',b,p => by
  have i := fun b p => fwd_app es es' b p
  by_cases k1 : e.1 = 1
  ·obtain ⟨X,b',p',h⟩ := i false [];exact ⟨(e.2.1,e.2.2) :: X,b',p',by simp only [List.cons_append,fwd,k1,if_true,Tot.add,Tot.rc,h]⟩
  by_cases k2 : e.1 = 2
  ·obtain ⟨X,b',p',h⟩ := i true e.2.1;exact ⟨X,b',p',by simp only [List.cons_append,fwd,k2,show ¬ (2 : Int) = 1 by decide,if_true,if_false,Tot.add,h]⟩
  by_cases k3 : e.1 = 3
  ·cases b
   ·obtain ⟨X,b',p',h⟩ := i false [];exact ⟨X,b',p',by simp only [List.cons_append,fwd,k3,show ¬ (3 : Int) = 1 by decide,show ¬ (3 : Int) = 2 by decide,if_true,if_false,Tot.add,h,Bool.false_eq_true]⟩
   ·obtain ⟨X,b',p',h⟩ := i true (p ++ e.2.1);exact ⟨X,b',p',by simp only [List.cons_append,fwd,k3,show ¬ (3 : Int) = 1 by decide,show ¬ (3 : Int) = 2 by decide,if_true,if_false,h]⟩
  by_cases k4 : e.1 = 4
  ·cases b
   ·obtain ⟨X,b',p',h⟩ := i false [];exact ⟨X,b',p',by simp only [List.cons_append,fwd,k4,show ¬ (4 : Int) = 1 by decide,show ¬ (4 : Int) = 2 by decide,show ¬ (4 : Int) = 3 by decide,if_true,if_false,Tot.add,h,Bool.false_eq_true]⟩
   ·obtain ⟨X,b',p',h⟩ := i false [];exact ⟨(p ++ e.2.1,e.2.2) :: X,b',p',by simp only [List.cons_append,fwd,k4,show ¬ (4 : Int) = 1 by decide,show ¬ (4 : Int) = 2 by decide,show ¬ (4 : Int) = 3 by decide,if_true,if_false,Tot.rc,h]⟩
  by_cases k5 : e.1 = -2
  ·obtain ⟨X,b',p',h⟩ := i false [];exact ⟨X,b',p',by simp only [List.cons_append,fwd,k1,k2,k3,k4,k5,if_true,if_false,Tot.add,h,show ¬ (-2 : Int) = 1 by decide,show ¬ (-2 : Int) = 2 by decide,show ¬ (-2 : Int) = 3 by decide,show ¬ (-2 : Int) = 4 by decide]⟩
  by_cases k6 : e.1 = -1
  ·obtain ⟨X,b',p',h⟩ := i false [];exact ⟨X,b',p',by simp only [List.cons_append,fwd,k6,if_true,if_false,Tot.add,h,show ¬ (-1 : Int) = 1 by decide,show ¬ (-1 : Int) = 2 by decide,show ¬ (-1 : Int) = 3 by decide,show ¬ (-1 : Int) = 4 by decide,show ¬ (-1 : Int) = -2 by decide]⟩
  ·obtain ⟨X,b',p',h⟩ := i false [];exact ⟨X,b',p',by simp only [List.cons_append,fwd,k1,k2,k3,k4,k5,k6,if_false,Tot.add,h]⟩
theorem ϰat {y : Y} {a u : Int} (h0 : 0 ≤ a) (h1 : a ≤ u) (h2 : u ≤ y.length) : cut y (some a) (some u) ++ y.drop u.toNat = y.drop a.toNat ∧ ((cut y (some a) (some u)).length : Int) = u - a := by
 have e : cut y (some a) (some u) = sl y a u := cut_run _ h0 (by exact Int.le_trans h0 h1)
 rw [e]
 refine ⟨?_,sl_len h0 h1 h2⟩
 unfold sl
 have : y.drop a.toNat = (y.take u.toNat ++ y.drop u.toNat).drop a.toNat := by rw [List.take_append_drop]
 rw [this,List.drop_append_of_le_length (by rw [List.length_take];exact Nat.le_min.mpr ⟨Int.toNat_le_toNat h1,Int.toNat_le.mpr (Int.le_trans h1 h2)⟩)]
theorem addF_wr {y : Y} {block check : Int} (hb : 8 ≤ block) : ∀ (n : Nat) (a len : Int) (b : Bool) (ch : List Y) (ch' : List Y) (len' : Int),0 ≤ a → a ≤ y.length → addF y block check n a len b ch = some (ch',len') →
  ∃ x es,ch'.flatten = ch.flatten ++ x ∧ Wr block check len x es ∧ len' = len + (x.length : Int) ∧ Grp b (y.drop a.toNat) es ∧ (x.length : Int) ≤ n * (block + 6) := by
 intro n
 induction n with
 | zero => intro a len b ch ch' len' _ _ h;cases h
 | succ n ih =>
  intro a len b ch ch' len' h0 h1 h
  have hm0 := Int.emod_nonneg len (show block ≠ 0 by exact fun hq => δF hb hq rfl)
  have hm := Int.emod_lt_of_pos len (show 0 < block by exact δl hb rfl)
  have hnb : ((n + 1 : Nat) : Int) * (block + 6) = n * (block + 6) + (block + 6) := by rw [Int.natCast_add,Int.add_mul];simp
  obtain ⟨len1,ch1,room,fill,hl1,hc1,hro,hfl,hro7,hwr⟩ : ∃ (len1 : Int) (ch1 : List Y) (room : Int) (fill : Y),len1 = (if block - len % block < 7 then len + ((List.replicate (block - len % block).toNat (0 : Int)).length : Int) else len) ∧
    ch1 = (if block - len % block < 7 then ch ++ [List.replicate (block - len % block).toNat 0] else ch) ∧ room = (if block - len % block < 7 then block else block - len % block) ∧ (ch1.flatten = ch.flatten ++ fill ∧ len1 = len + (fill.length : Int) ∧ (fill.length : Int) ≤ 6) ∧ (7 ≤ room ∧ room ≤ block ∧ room = block - len1 % block) ∧
    (∀ x es,Wr block check len1 x es → Wr block check len (fill ++ x) es) := by
   by_cases hf : block - len % block < 7
   ·refine ⟨_,_,_,List.replicate (block - len % block).toNat 0,rfl,rfl,rfl,?_⟩
    simp only [if_pos hf]
    have hl : len + ((List.replicate (block - len % block).toNat (0 : Int)).length : Int) = len + (block - len % block) := by rw [List.length_replicate];exact η2 [_,_,_] [_] (.eq (.a ξ0 (.c ν0)) (.a ξ0 (.s ξ1 ξ2))) (.eq (.c ν0) (.s ξ1 ξ2)) (.le (.s ξ1 ξ2) (.c ν0)) [1,0,1] [1,1,0] (Int.toNat_of_nonneg (δE hm rfl)) (Int.self_le_toNat _) rfl
    refine ⟨⟨by simp,by first | trivial | rfl,by rw [List.length_replicate];exact ω2 [_,_] [_] (.le (.c ν0) (.n 6)) (.lt (.s ξ0 ξ1) (.n 7)) (.eq (.c ν0) (.s ξ0 ξ1)) hf (Int.toNat_of_nonneg (δE hm rfl)) rfl⟩,⟨by exact δj hb rfl,by exact Int.le_refl _,?_⟩,fun x es hx => ?_⟩
    ·rw [hl,emod_end hb];exact η0 [_] [] (.eq ξ0 (.s ξ0 (.n 0))) [1] [1] rfl
    ·rw [hl] at hx;exact .fill hf hx
   ·refine ⟨_,_,_,[],rfl,rfl,rfl,?_⟩
    simp only [if_neg hf]
    exact ⟨⟨by simp,by simp,by simp⟩,⟨by exact ω1 [_,_] [] (.le (.n 7) (.s ξ0 ξ1)) (.nlt (.s ξ0 ξ1) (.n 7)) hf rfl,by exact ω1 [_,_] [] (.le (.s ξ0 ξ1) ξ0) (.le (.n 0) ξ1) hm0 rfl,by first | trivial | rfl⟩,fun x es hx => hx⟩
  obtain ⟨hfl1,hfl2,hfl3⟩ := hfl
  obtain ⟨hr7,hrb,hrr⟩ := hro7
  simp only [addF] at h
  rw [← hl1,← hc1,← hro] at h
  have hup : upF y.length a room ≤ y.length ∧ a ≤ upF y.length a room ∧ upF y.length a room ≤ a + room - 7 := by unfold upF;split <;> (first | exact ⟨ω1 [_,_] [_] (.le (.s (.a ξ0 ξ1) (.n 7)) (.c ν0)) (.lt (.s (.a ξ0 ξ1) (.n 7)) (.c ν0)) (by assumption) rfl,⟨ω1 [_,_] [] (.le ξ0 (.s (.a ξ0 ξ1) (.n 7))) (.le (.n 7) ξ1) hr7 rfl,κ0 [_,_] [] (.le (.s (.a ξ0 ξ1) (.n 7)) (.s (.a ξ0 ξ1) (.n 7))) [1] rfl⟩⟩ | exact ⟨κ0 [] [_] (.le (.c ν0) (.c ν0)) [1] rfl,⟨ω1 [_] [_] (.le ξ0 (.c ν0)) (.le ξ0 (.c ν0)) h1 rfl,ω1 [_,_] [_] (.le (.c ν0) (.s (.a ξ0 ξ1) (.n 7))) (.nlt (.s (.a ξ0 ξ1) (.n 7)) (.c ν0)) (by assumption) rfl⟩⟩)
  obtain ⟨u1,u2,u3⟩ := hup
  obtain ⟨sp1,sp2⟩ := ϰat h0 u2 u1
  by_cases he : upF y.length a room = y.length
  ·rw [if_pos he] at h
   cases h
   have hd : y.drop (upF y.length a room).toNat = [] := List.drop_of_length_le (by exact κ2 [_] [_,_] (.Le ν0 ν1) (.eq ξ0 (.c ν0)) (.le ξ0 (.c ν1)) [1,-1,1] he (Int.self_le_toNat _) rfl)
   rw [hd,List.append_nil] at sp1
   refine ⟨fill ++ (fragY (kdF b (upF y.length a room = y.length)) (cut y (some a) (some (upF y.length a room))) check ++ []),[(kdF b (upF y.length a room = y.length),cut y (some a) (some (upF y.length a room)),len1 + (7 + ((cut y (some a) (some (upF y.length a room))).length : Int)))],?_,hwr _ _ (.frag (by exact ω3 [_,_,_,_,_] [_] (.le (.a (.n 7) (.c ν0)) (.s ξ0 ξ1)) (.eq (.c ν0) (.s ξ2 ξ3)) (.le ξ2 (.s (.a ξ3 ξ4) (.n 7))) (.eq ξ4 (.s ξ0 ξ1)) sp2 u3 hrr rfl) ?_ (.nil _)),?_,?_,?_⟩
   ·rw [List.flatten_append,hfl1];simp
   ·cases b <;> simp only [kdF,if_pos he,if_true,if_false,Bool.false_eq_true] <;> (first | exact ⟨κ0 [] [] (.le (.n 1) (.n 1)) [1] rfl,κ0 [] [] (.le (.n 1) (.n 4)) [1] rfl⟩ | exact ⟨κ0 [] [] (.le (.n 1) (.n 4)) [1] rfl,κ0 [] [] (.le (.n 4) (.n 4)) [1] rfl⟩)
   ·rw [List.append_nil,List.length_append,hfl2];push_cast;exact η0 [_] [_,_] (.eq (.a (.a ξ0 (.c ν0)) (.c ν1)) (.a ξ0 (.a (.c ν0) (.c ν1)))) [1] [1] rfl
   ·rw [← sp1]
    cases b
    ·simp only [kdF,if_pos he,Bool.false_eq_true,if_false];exact .full
    ·simp only [kdF,if_pos he,if_true];exact .last
   ·have hq : 0 ≤ (n : Int) * (block + 6) := Int.mul_nonneg (by exact δz _) (by exact ω3 [_,_,_,_] [] (.le (.n 0) (.a ξ0 (.n 6))) (.le ξ1 (.s (.a ξ2 ξ3) (.n 7))) (.le ξ2 ξ1) (.le ξ3 ξ0) u3 u2 hrb rfl)
    rw [List.append_nil,List.length_append,ϰB,hnb];push_cast;exact ω5 [_,_,_,_,_] [_,_] (.le (.a (.c ν0) (.a (.a (.a (.a (.a (.a (.a (.c ν1) (.n 1)) (.n 1)) (.n 1)) (.n 1)) (.n 1)) (.n 1)) (.n 1))) (.a ξ0 (.a ξ1 (.n 6)))) (.le (.n 0) ξ0) (.eq (.c ν1) (.s ξ2 ξ3)) (.le ξ2 (.s (.a ξ3 ξ4) (.n 7))) (.le ξ4 ξ1) (.le (.c ν0) (.n 6)) hq sp2 u3 hrb hfl3 rfl
  ·rw [if_neg he] at h
   obtain ⟨x,es,i1,i2,i3,i4,i5⟩ := ih (upF y.length a room) _ true _ _ _ (by exact Int.le_trans h0 u2) u1 h
   have hfr : ((fragY (kdF b (upF y.length a room = y.length)) (cut y (some a) (some (upF y.length a room))) check).length : Int) = 7 + ((cut y (some a) (some (upF y.length a room))).length : Int) := by rw [ϰB];push_cast;exact η0 [] [_] (.eq (.a (.a (.a (.a (.a (.a (.a (.c ν0) (.n 1)) (.n 1)) (.n 1)) (.n 1)) (.n 1)) (.n 1)) (.n 1)) (.a (.n 7) (.c ν0))) [1] [1] rfl
   rw [hfr] at i2 i3
   refine ⟨fill ++ (fragY (kdF b (upF y.length a room = y.length)) (cut y (some a) (some (upF y.length a room))) check ++ x),(kdF b (upF y.length a room = y.length),cut y (some a) (some (upF y.length a room)),len1 + (7 + ((cut y (some a) (some (upF y.length a room))).length : Int))) :: es,?_,hwr _ _ (.frag (by exact ω3 [_,_,_,_,_] [_] (.le (.a (.n 7) (.c ν0)) (.s ξ0 ξ1)) (.eq (.c ν0) (.s ξ2 ξ3)) (.le ξ2 (.s (.a ξ3 ξ4) (.n 7))) (.eq ξ4 (.s ξ0 ξ1)) sp2 u3 hrr rfl) ?_ i2),?_,?_,?_⟩
   ·rw [i1,List.flatten_append,hfl1];simp
   ·cases b <;> simp only [kdF,if_neg he,if_true,if_false,Bool.false_eq_true] <;> (first | exact ⟨κ0 [] [] (.le (.n 1) (.n 2)) [1] rfl,κ0 [] [] (.le (.n 2) (.n 4)) [1] rfl⟩ | exact ⟨κ0 [] [] (.le (.n 1) (.n 3)) [1] rfl,κ0 [] [] (.le (.n 3) (.n 4)) [1] rfl⟩)
   ·rw [List.length_append,List.length_append];push_cast;exact η3 [_,_,_] [_,_,_,_] (.eq ξ0 (.a ξ1 (.a (.c ν0) (.a (.c ν1) (.c ν2))))) (.eq (.c ν1) (.a (.n 7) (.c ν3))) (.eq ξ0 (.a (.a ξ2 (.a (.n 7) (.c ν3))) (.c ν2))) (.eq ξ2 (.a ξ1 (.c ν0))) [1,1,-1,-1] [1,-1,1,1] hfr i3 hfl2 rfl
   ·rw [← sp1]
    cases b
    ·simp only [kdF,if_neg he,Bool.false_eq_true,if_false];exact .first i4
    ·simp only [kdF,if_neg he,if_true];exact .mid i4
   ·rw [List.length_append,List.length_append,hnb];push_cast;exact ω6 [_,_,_,_,_] [_,_,_,_] (.le (.a (.c ν0) (.a (.c ν1) (.c ν2))) (.a ξ0 (.a ξ1 (.n 6)))) (.eq (.c ν1) (.a (.n 7) (.c ν3))) (.le (.c ν2) ξ0) (.eq (.c ν3) (.s ξ2 ξ3)) (.le ξ2 (.s (.a ξ3 ξ4) (.n 7))) (.le ξ4 ξ1) (.le (.c ν0) (.n 6)) hfr i5 sp2 u3 hrb hfl3 rfl
theorem addF_al {y : Y} {block check : Int} (hb : 8 ≤ block) : ∀ (n : Nat) (a len : Int) (b : Bool) (ch : List Y),0 ≤ a → len % block = 0 → (y.length : Int) - a ≤ n * (block - 7) → a ≤ y.length → ∃ r,addF y block check (n + 1) a len b ch = some r := by
 intro n
 induction n with
 | zero =>
  intro a len b ch h0 hl h ha
  have e : upF y.length a block = y.length := by unfold upF;rw [if_neg (by omega)]
  simp only [addF,hl,Int.sub_zero,if_neg (show ¬ block < 7 by exact ω1 [_] [] (.nlt ξ0 (.n 7)) (.le (.n 8) ξ0) hb rfl),e,if_true]
  exact ⟨_,rfl⟩
 | succ n ih =>
  intro a len b ch h0 hl h ha
  have hnb : ((n + 1 : Nat) : Int) * (block - 7) = n * (block - 7) + (block - 7) := by rw [Int.natCast_add,Int.add_mul];simp
  by_cases e : upF y.length a block = y.length
  ·rw [addF]
   simp only [hl,Int.sub_zero,if_neg (show ¬ block < 7 by exact ω1 [_] [] (.nlt ξ0 (.n 7)) (.le (.n 8) ξ0) hb rfl),e,if_true]
   exact ⟨_,rfl⟩
  ·have hu : upF y.length a block = a + block - 7 := by unfold upF at e ⊢;split;rfl;rename_i q;rw [if_neg q] at e;exact absurd rfl e
   have hlt : a + block - 7 < y.length := by unfold upF at e;by_cases q : a + block - 7 < (y.length : Int);exact q;rw [if_neg q] at e;exact absurd rfl e
   obtain ⟨sp1,sp2⟩ := ϰat (y := y) h0 (show a ≤ a + block - 7 by exact ω1 [_,_] [] (.le ξ0 (.s (.a ξ0 ξ1) (.n 7))) (.le (.n 8) ξ1) hb rfl) (by exact ω1 [_,_] [_] (.le (.s (.a ξ0 ξ1) (.n 7)) (.c ν0)) (.lt (.s (.a ξ0 ξ1) (.n 7)) (.c ν0)) hlt rfl)
   rw [addF]
   simp only [hl,Int.sub_zero,if_neg (show ¬ block < 7 by exact ω1 [_] [] (.nlt ξ0 (.n 7)) (.le (.n 8) ξ0) hb rfl),if_neg e]
   refine ih _ _ _ _ (by rw [hu];exact ω2 [_,_] [] (.le (.n 0) (.s (.a ξ0 ξ1) (.n 7))) (.le (.n 0) ξ0) (.le (.n 8) ξ1) h0 hb rfl) ?_ (by rw [hu];exact ω2 [_,_,_,_] [_] (.le (.s (.c ν0) (.s (.a ξ0 ξ1) (.n 7))) ξ2) (.eq ξ3 (.a ξ2 (.s ξ1 (.n 7)))) (.le (.s (.c ν0) ξ0) ξ3) hnb h rfl) (by rw [hu];exact ω1 [_,_] [_] (.le (.s (.a ξ0 ξ1) (.n 7)) (.c ν0)) (.lt (.s (.a ξ0 ξ1) (.n 7)) (.c ν0)) hlt rfl)
   rw [hu,ϰB]
   have : len + (((cut y (some a) (some (a + block - 7))).length + 7 : Nat) : Int) = len + block := by push_cast;exact η1 [_,_,_] [_] (.eq (.a ξ0 (.a (.a (.a (.a (.a (.a (.a (.c ν0) (.n 1)) (.n 1)) (.n 1)) (.n 1)) (.n 1)) (.n 1)) (.n 1))) (.a ξ0 ξ1)) (.eq (.c ν0) (.s (.s (.a ξ2 ξ1) (.n 7)) ξ2)) [1,-1] [1,1] sp2 rfl
   rw [this,Int.add_emod_right];exact hl
theorem addF_some {y : Y} {block check len : Int} {ch : List Y} (hb : 8 ≤ block) (hy : (y.length : Int) ≤ 2 * block - 13) : ∃ r,addF y block check 5 0 len false ch = some r := by
 have hm0 := Int.emod_nonneg len (show block ≠ 0 by exact fun hq => δF hb hq rfl)
 have hm := Int.emod_lt_of_pos len (show 0 < block by exact δl hb rfl)
 rw [addF]
 by_cases hf : block - len % block < 7
 ·simp only [if_pos hf]
  by_cases e : upF y.length 0 block = y.length
  ·simp only [e,if_true];exact ⟨_,rfl⟩
  ·simp only [if_neg e]
   have hu : upF y.length 0 block = 0 + block - 7 := by unfold upF at e ⊢;split;rfl;rename_i q;rw [if_neg q] at e;exact absurd rfl e
   have hlt : 0 + block - 7 < y.length := by unfold upF at e;by_cases q : 0 + block - 7 < (y.length : Int);exact q;rw [if_neg q] at e;exact absurd rfl e
   obtain ⟨sp1,sp2⟩ := ϰat (y := y) (Int.le_refl 0) (show 0 ≤ 0 + block - 7 by exact κ1 [_] [_] (.le (.n 0) (.s (.a (.n 0) ξ0) (.n 7))) (.le (.c ν0) (.s (.m 2 ξ0) (.n 13))) [2,1] hy rfl) (by exact ω1 [_] [_] (.le (.s (.a (.n 0) ξ0) (.n 7)) (.c ν0)) (.lt (.s (.a (.n 0) ξ0) (.n 7)) (.c ν0)) hlt rfl)
   refine addF_al hb 3 _ _ _ _ (by rw [hu];exact κ1 [_] [_] (.le (.n 0) (.s (.a (.n 0) ξ0) (.n 7))) (.le (.c ν0) (.s (.m 2 ξ0) (.n 13))) [2,1] hy rfl) ?_ (by rw [hu];push_cast;exact κ2 [_] [_] (.le (.s (.c ν0) (.s (.a (.n 0) ξ0) (.n 7))) (.m 3 (.s ξ0 (.n 7)))) (.le (.c ν0) (.s (.m 2 ξ0) (.n 13))) (.le (.n 8) ξ0) [1,1,2] hy hb rfl) (by rw [hu];exact ω1 [_] [_] (.le (.s (.a (.n 0) ξ0) (.n 7)) (.c ν0)) (.lt (.s (.a (.n 0) ξ0) (.n 7)) (.c ν0)) hlt rfl)
   rw [hu,ϰB,List.length_replicate]
   have : len + ((block - len % block).toNat : Int) + (((cut y (some 0) (some (0 + block - 7))).length + 7 : Nat) : Int) = len + (block - len % block) + block := by push_cast;exact η3 [_,_,_] [_,_] (.eq (.a (.a ξ0 (.c ν0)) (.a (.a (.a (.a (.a (.a (.a (.c ν1) (.n 1)) (.n 1)) (.n 1)) (.n 1)) (.n 1)) (.n 1)) (.n 1))) (.a (.a ξ0 (.s ξ1 ξ2)) ξ1)) (.eq (.c ν1) (.s (.s (.a (.n 0) ξ1) (.n 7)) (.n 0))) (.eq (.c ν0) (.s ξ1 ξ2)) (.le (.s ξ1 ξ2) (.c ν0)) [1,-1,0,1] [1,1,1,0] sp2 (Int.toNat_of_nonneg (δE hm rfl)) (Int.self_le_toNat _) rfl
   rw [this,Int.add_emod_right];exact emod_end hb
 ·simp only [if_neg hf]
  by_cases e : upF y.length 0 (block - len % block) = y.length
  ·simp only [e,if_true];exact ⟨_,rfl⟩
  ·simp only [if_neg e]
   have hu : upF y.length 0 (block - len % block) = 0 + (block - len % block) - 7 := by unfold upF at e ⊢;split;rfl;rename_i q;rw [if_neg q] at e;exact absurd rfl e
   have hlt : 0 + (block - len % block) - 7 < y.length := by unfold upF at e;by_cases q : 0 + (block - len % block) - 7 < (y.length : Int);exact q;rw [if_neg q] at e;exact absurd rfl e
   obtain ⟨sp1,sp2⟩ := ϰat (y := y) (Int.le_refl 0) (show 0 ≤ 0 + (block - len % block) - 7 by exact ω1 [_,_] [] (.le (.n 0) (.s (.a (.n 0) (.s ξ0 ξ1)) (.n 7))) (.nlt (.s ξ0 ξ1) (.n 7)) hf rfl) (by exact ω1 [_,_] [_] (.le (.s (.a (.n 0) (.s ξ0 ξ1)) (.n 7)) (.c ν0)) (.lt (.s (.a (.n 0) (.s ξ0 ξ1)) (.n 7)) (.c ν0)) hlt rfl)
   refine addF_al hb 3 _ _ _ _ (by rw [hu];exact ω1 [_,_] [] (.le (.n 0) (.s (.a (.n 0) (.s ξ0 ξ1)) (.n 7))) (.nlt (.s ξ0 ξ1) (.n 7)) hf rfl) ?_ (by rw [hu];push_cast;exact ω3 [_,_] [_] (.le (.s (.c ν0) (.s (.a (.n 0) (.s ξ0 ξ1)) (.n 7))) (.m 3 (.s ξ0 (.n 7)))) (.nlt (.s ξ0 ξ1) (.n 7)) (.le (.c ν0) (.s (.m 2 ξ0) (.n 13))) (.le (.n 8) ξ0) hf hy hb rfl) (by rw [hu];exact ω1 [_,_] [_] (.le (.s (.a (.n 0) (.s ξ0 ξ1)) (.n 7)) (.c ν0)) (.lt (.s (.a (.n 0) (.s ξ0 ξ1)) (.n 7)) (.c ν0)) hlt rfl)
   rw [hu,ϰB]
   have : len + (((cut y (some 0) (some (0 + (block - len % block) - 7))).length + 7 : Nat) : Int) = len + (block - len % block) := by push_cast;exact η1 [_,_,_] [_] (.eq (.a ξ0 (.a (.a (.a (.a (.a (.a (.a (.c ν0) (.n 1)) (.n 1)) (.n 1)) (.n 1)) (.n 1)) (.n 1)) (.n 1))) (.a ξ0 (.s ξ1 ξ2))) (.eq (.c ν0) (.s (.s (.a (.n 0) (.s ξ1 ξ2)) (.n 7)) (.n 0))) [1,-1] [1,1] sp2 rfl
   rw [this];exact emod_end hb
noncomputable abbrev zF (ns : Y) (i : Nat) : Int := drawF ns (7 + (0 + (i : Int) * 1))
noncomputable abbrev szF (ns : Y) (block check : Int) (i : Nat) : Int := if check = 1 then mnF (zF ns i % (2 * block - 12)) 5 else zF ns i % (2 * block - 12)
noncomputable abbrev rcF (ns : Y) (block check : Int) (i : Nat) : Y := (rangeKs 0 (szF ns block check i).toNat).map fun k => (zF ns i / 7 + 3 * k) % 256
structure NW where
 ch : List Y
 len : Int
 sure : List Y
noncomputable def newStep (ns : Y) (block check border : Int) (i : Nat) (s : NW) : NW :=
 ⟨((addF (rcF ns block check i) block check 5 0 s.len false s.ch).getD (s.ch,s.len)).1,((addF (rcF ns block check i) block check 5 0 s.len false s.ch).getD (s.ch,s.len)).2,if border ≤ adj block s.len then s.sure ++ [rcF ns block check i] else s.sure⟩
noncomputable def newF (ns : Y) (block check border len0 : Int) : Nat → NW
 | 0 => ⟨[],len0,[]⟩
 | i + 1 => newStep ns block check border i (newF ns block check border len0 i)
theorem ϱu {a b : Y} (h : Byt a) (h' : Byt b) : Byt (a ++ b) := fun x hx => (List.mem_append.mp hx).elim (h x) (h' x)
theorem byt_cons {a : Int} {b : Y} (h : 0 ≤ a ∧ a < 256) (h' : Byt b) : Byt (a :: b) := fun x hx => (List.mem_cons.mp hx).elim (fun e => e ▸ h) (h' x)
theorem byt_nil : Byt [] := fun x h => nomatch h
theorem byt_rep {n : Nat} {a : Int} (h : 0 ≤ a ∧ a < 256) : Byt (List.replicate n a) := fun x hx => by rw [List.eq_of_mem_replicate hx];exact h
theorem byt_cut {d : Y} (h : Byt d) (a b : Option Int) : Byt (cut d a b) := fun x hx => h x (cut_mem' x hx)
 where cut_mem' : ∀ x,x ∈ cut d a b → x ∈ d := fun e h => List.mem_of_mem_drop (List.mem_of_mem_take h)
theorem ϰaT {k check : Int} {y : Y} (hk : 0 ≤ k ∧ k < 256) (hy : Byt y) (hl : y.length < 60000) : Byt (fragY k y check) := by
 unfold fragY
 refine ϱu (ϱu (le4_bytes (ckF_in _ _).1 (by have := (ckF_in check (k :: y)).2;exact δp this rfl)) ?_) (byt_cons hk hy)
 exact byt_cons (by exact ⟨δn rfl,δm rfl⟩) (byt_cons (by exact ⟨κ2 [_,_] [_] (.le (.n 0) ξ0) (.eq (.a (.m 256 ξ0) ξ1) (.c ν0)) (.lt ξ1 (.n 256)) [256,-1,1] (Int.mul_ediv_add_emod _ _) (Int.emod_lt_of_pos _ (by decide)) rfl,κ3 [_,_] [_] (.lt ξ0 (.n 256)) (.Lt ν0 (.n 60000)) (.eq (.a (.m 256 ξ0) ξ1) (.c ν0)) (.le (.n 0) ξ1) [256,1,1,1] hl (Int.mul_ediv_add_emod _ _) (Int.emod_nonneg _ (by decide)) rfl⟩) byt_nil)
theorem byt_map {f : Int → Int} {l : Y} : Byt (l.map fun k => f k % 256) := fun x hx => by obtain ⟨k,_,rfl⟩ := List.mem_map.mp hx;exact ⟨δn rfl,δm rfl⟩
theorem byt_vals {z s : Int} : Byt (vals5 z s) := byt_map
theorem byt_old {ns : Y} {block check : Int} (hb : 8 ≤ block) (hb1 : block ≤ 31) (hn : ∀ x ∈ ns,0 ≤ x) : ∀ i,Byt (oldF ns block check i)
 | 0 => byt_nil
 | i + 1 => by
  have ih := byt_old (check := check) hb hb1 hn i
  have y0 : 0 ≤ yF ns i := ϱd hn (by exact κ0 [] [_] (.le (.n 0) (.a (.n 2) (.a (.n 0) (.r (.c ν0) 1)))) [1] rfl)
  have hv : ∀ s : Int,s < 60000 → (vals5 (yF ns i / 8) s).length < 60000 := fun s h => by rw [vals5_len];omega
  have hm0 := Int.emod_nonneg ((oldF ns block check i).length : Int) (show block ≠ 0 by exact fun hq => δF hb hq rfl)
  have r0 : Byt (List.replicate (roomF block (oldF ns block check i)).toNat 0) := byt_rep (by decide)
  have hmn : ∀ a b : Int,a < 60000 → mnF a b < 60000 := fun a b h => by unfold mnF;split <;> (first | exact ω2 [_,_] [] (.lt ξ0 (.n 60000)) (.lt ξ1 (.n 60000)) (.lt ξ0 ξ1) h (by assumption) rfl | exact ω1 [_] [] (.lt ξ0 (.n 60000)) (.lt ξ0 (.n 60000)) h rfl)
  have hF : Byt (fragY (1 + yF ns i / 8 / 7 % 4) (vals5 (yF ns i / 8) (yF ns i / 8 % 7)) check) := ϰaT (by exact ⟨δB rfl,δC rfl⟩) byt_vals (hv _ (by exact δm rfl))
  simp only [oldF]
  unfold oldStep
  split
  ·split
   ·split
    ·exact ϱu (ϱu ih r0) (ϰaT (by exact ⟨κ1 [_] [] (.le (.n 0) (.r ξ0 5)) (.le (.n 0) ξ0) [1,5] (Int.emod_nonneg _ (by decide)) rfl,κ1 [_] [] (.lt (.r ξ0 5) (.n 256)) (.lt ξ0 (.n 2)) [1,5] (Int.emod_lt_of_pos _ (by decide)) rfl⟩) byt_vals (hv _ (hmn _ _ (by exact δm rfl))))
    ·exact ϱu (ϱu ih r0) (ϰaT (by exact ⟨δB rfl,δC rfl⟩) byt_vals (hv _ (hmn _ _ (by exact δm rfl))))
   ·split
    ·exact ϱu ih (ϰaT (by exact ⟨κ1 [_] [] (.le (.n 0) (.r ξ0 5)) (.le (.n 0) ξ0) [1,5] (Int.emod_nonneg _ (by decide)) rfl,κ1 [_] [] (.lt (.r ξ0 5) (.n 256)) (.lt ξ0 (.n 2)) [1,5] (Int.emod_lt_of_pos _ (by decide)) rfl⟩) byt_vals (hv _ (hmn _ _ (by exact δm rfl))))
    ·exact ϱu ih (ϰaT (by exact ⟨δB rfl,δC rfl⟩) byt_vals (hv _ (hmn _ _ (by exact δm rfl))))
  ·split
   ·exact ϱu ih (byt_cons (by exact ⟨δn rfl,δm rfl⟩) (byt_cut hF _ _))
   ·split
    ·exact ϱu ih (ϱu (ϱu (byt_cut hF _ _) (byt_cons (by exact ⟨ω2 [_,_] [] (.le (.n 0) (.a (.a ξ0 (.n 1)) ξ1)) (.le (.n 0) ξ0) (.le (.n 0) ξ1) (Int.emod_nonneg _ (by decide)) (Int.emod_nonneg _ (by decide)) rfl,ω2 [_,_] [] (.lt (.a (.a ξ0 (.n 1)) ξ1) (.n 256)) (.lt ξ0 (.n 7)) (.lt ξ1 (.n 40)) (Int.emod_lt_of_pos _ (by decide)) (Int.emod_lt_of_pos _ (by decide)) rfl⟩) byt_nil)) (byt_cut hF _ _))
    ·exact ϱu ih (byt_rep m2)
theorem addF_byt {y : Y} {block check : Int} (hy : Byt y) (hl : y.length < 60000) : ∀ (n : Nat) (a len : Int) (b : Bool) (ch ch' : List Y) (len' : Int),(∀ c ∈ ch,Byt c) → addF y block check n a len b ch = some (ch',len') → ∀ c ∈ ch',Byt c
 | 0,_,_,_,_,_,_,_,h => by cases h
 | n + 1,a,len,b,ch,ch',len',hc,h => by
  have h1 : ∀ c ∈ (if block - len % block < 7 then ch ++ [List.replicate (block - len % block).toNat 0] else ch),Byt c := by
   intro c hm
   by_cases q : block - len % block < 7
   ·rw [if_pos q] at hm
    rcases List.mem_append.mp hm with z | z
    ·exact hc c z
    ·rw [List.mem_singleton.mp z];exact byt_rep (by decide)
   ·rw [if_neg q] at hm;exact hc c hm
  simp only [addF] at h
  generalize (if block - len % block < 7 then ch ++ [List.replicate (block - len % block).toNat 0] else ch) = ch1 at h h1
  generalize (if block - len % block < 7 then len + ((List.replicate (block - len % block).toNat (0 : Int)).length : Int) else len) = len1 at h
  generalize (if block - len % block < 7 then block else block - len % block) = room at h
  have hk : 0 ≤ kdF b (upF y.length a room = y.length) ∧ kdF b (upF y.length a room = y.length) < 256 := by
   by_cases q : upF y.length a room = y.length <;> cases b <;> simp [kdF,q]
  have hcl : (cut y (some a) (some (upF y.length a room))).length < 60000 := Nat.lt_of_le_of_lt (ϱz (Nat.le_refl _)) hl
  have hf := ϰaT (check := check) hk (byt_cut hy (some a) (some (upF y.length a room))) hcl
  have h2 : ∀ c ∈ ch1 ++ [fragY (kdF b (upF y.length a room = y.length)) (cut y (some a) (some (upF y.length a room))) check],Byt c := by
   intro c hm
   rcases List.mem_append.mp hm with q | q
   ·exact h1 c q
   ·rw [List.mem_singleton.mp q];exact hf
  by_cases hu : upF y.length a room = y.length
  ·rw [if_pos hu] at h;cases h;exact h2
  ·rw [if_neg hu] at h;exact addF_byt hy hl n _ _ _ _ _ _ h2 h
theorem byt_flat {ch : List Y} (h : ∀ c ∈ ch,Byt c) : Byt ch.flatten := fun x hx => by
 obtain ⟨c,hc,hx⟩ := List.mem_flatten.mp hx
 exact h c hc x hx
theorem Grp.ne {b : Bool} {y : Y} {es : List Ev} (h : Grp b y es) : es ≠ [] := by cases h <;> simp
theorem RL.nil_inv {es : List Ev} {rs : List Y} (h : RL rs es) (e : rs = []) : es = [] := by cases h with | nil => rfl | cons => cases e
structure NewOK (block check border pos0 : Int) (k : Nat) (s : NW) : Prop where
 x : ∃ esA esB rsA,Wr block check pos0 s.ch.flatten (esA ++ esB) ∧ s.len = pos0 + (s.ch.flatten.length : Int) ∧ RL rsA esA ∧ RL s.sure esB ∧ (∀ e ∈ esB,border + 7 ≤ e.2.2) ∧ (s.sure ≠ [] → border ≤ s.len)
 sz : (s.ch.flatten.length : Int) ≤ k * 185
 by_ : ∀ c ∈ s.ch,Byt c
 sl : s.sure.length ≤ k
 cl : s.ch.length ≤ 10 * k
theorem addF_cl {y : Y} {block check : Int} : ∀ (n : Nat) (a len : Int) (b : Bool) (ch ch' : List Y) (len' : Int),addF y block check n a len b ch = some (ch',len') → ch'.length ≤ ch.length + 2 * n
 | 0,_,_,_,_,_,_,h => by cases h
 | n + 1,a,len,b,ch,ch',len',h => by
  have h1 : (if block - len % block < 7 then ch ++ [List.replicate (block - len % block).toNat 0] else ch).length ≤ ch.length + 1 := by
   by_cases q : block - len % block < 7
   ·rw [if_pos q];simp
   ·rw [if_neg q];exact κ0 [] [_] (.Le ν0 (.a ν0 (.n 1))) [1] rfl
  simp only [addF] at h
  generalize (if block - len % block < 7 then ch ++ [List.replicate (block - len % block).toNat 0] else ch) = ch1 at h h1
  generalize (if block - len % block < 7 then len + ((List.replicate (block - len % block).toNat (0 : Int)).length : Int) else len) = len1 at h
  generalize (if block - len % block < 7 then block else block - len % block) = room at h
  by_cases hu : upF y.length a room = y.length
  ·rw [if_pos hu] at h;cases h;rw [List.length_append];simp only [List.length_cons,List.length_nil];exact ω1 [] [_,_,_] (.Le (.a ν0 (.a (.n 0) (.n 1))) (.a ν1 (.m 2 (.a ν2 (.n 1))))) (.Le ν0 (.a ν1 (.n 1))) h1 rfl
  ·rw [if_neg hu] at h
   have := addF_cl n _ _ _ _ _ _ h
   rw [List.length_append] at this;simp only [List.length_cons,List.length_nil] at this;exact ω2 [] [_,_,_,_] (.Le ν0 (.a ν1 (.m 2 (.a ν2 (.n 1))))) (.Le ν0 (.a (.a ν3 (.a (.n 0) (.n 1))) (.m 2 ν2))) (.Le ν3 (.a ν1 (.n 1))) this h1 rfl
theorem szF_le {ns : Y} {block check : Int} {i : Nat} (hb : 8 ≤ block) (hn : ∀ x ∈ ns,0 ≤ x) : 0 ≤ szF ns block check i ∧ szF ns block check i ≤ 2 * block - 13 := by
 have h0 := Int.emod_nonneg (zF ns i) (show 2 * block - 12 ≠ 0 by exact fun hq => φ2 [_] [] (.le (.n 8) ξ0) (.eq (.s (.m 2 ξ0) (.n 12)) (.n 0)) [2,1] hb hq rfl)
 have h1 := Int.emod_lt_of_pos (zF ns i) (show 0 < 2 * block - 12 by exact κ1 [_] [] (.lt (.n 0) (.s (.m 2 ξ0) (.n 12))) (.le (.n 8) ξ0) [1,2] hb rfl)
 unfold szF mnF
 split <;> (try split) <;> (first | exact ⟨κ0 [] [] (.le (.n 0) (.n 5)) [1] rfl,ω2 [_,_] [] (.le (.n 5) (.s (.m 2 ξ0) (.n 13))) (.lt ξ1 (.s (.m 2 ξ0) (.n 12))) (.lt (.n 5) ξ1) h1 (by assumption) rfl⟩ | exact ⟨ω1 [_] [] (.le (.n 0) ξ0) (.le (.n 0) ξ0) h0 rfl,ω1 [_,_] [] (.le ξ0 (.s (.m 2 ξ1) (.n 13))) (.lt ξ0 (.s (.m 2 ξ1) (.n 12))) h1 rfl⟩)
theorem rcF_len {ns : Y} {block check : Int} {i : Nat} (hb : 8 ≤ block) (hn : ∀ x ∈ ns,0 ≤ x) : ((rcF ns block check i).length : Int) ≤ 2 * block - 13 := by
 have := szF_le (check := check) (i := i) hb hn
 rw [rcF,List.length_map,rangeKs_length];exact ω2 [_,_] [_] (.le (.c ν0) (.s (.m 2 ξ0) (.n 13))) (.le ξ1 (.s (.m 2 ξ0) (.n 13))) (.eq (.c ν0) ξ1) this.2 (Int.toNat_of_nonneg (δj this.1 rfl)) rfl
theorem new_inv {ns : Y} {block check border pos0 : Int} (hb : 8 ≤ block) (hb1 : block ≤ 31) (hn : ∀ x ∈ ns,0 ≤ x) : ∀ k,NewOK block check border pos0 k (newF ns block check border pos0 k)
 | 0 => ⟨⟨[],[],[],.nil _,by simp [newF],.nil,.nil,(fun e h => nomatch h),fun h => absurd rfl h⟩,by simp [newF],(fun c h => nomatch h),Nat.le_refl _,Nat.le_refl _⟩
 | k + 1 => by
  obtain ⟨⟨esA,esB,rsA,h1,h2,h3,h4,h5,h6⟩,hsz,hby,hsl,hcl⟩ := new_inv hb hb1 hn k
  simp only [newF]
  generalize newF ns block check border pos0 k = s at *
  have hrl := rcF_len (check := check) (i := k) hb hn
  obtain ⟨⟨ch',len'⟩,hr⟩ := addF_some (check := check) (len := s.len) (ch := s.ch) hb hrl
  obtain ⟨x,es,q1,q2,q3,q4,q5⟩ := addF_wr hb 5 0 s.len false s.ch ch' len' (Int.le_refl 0) (by exact δz _) hr
  have hxl : (x.length : Int) ≤ 185 := by have : ((5 : Nat) : Int) * (block + 6) = 5 * (block + 6) := rfl;exact κ3 [_,_] [_] (.le (.c ν0) (.n 185)) (.eq ξ0 (.m 5 (.a ξ1 (.n 6)))) (.le (.c ν0) ξ0) (.le ξ1 (.n 31)) [1,1,1,5] this q5 hb1 rfl
  have hcb := addF_byt (y := rcF ns block check k) byt_map (by exact κ2 [_] [_] (.Lt ν0 (.n 60000)) (.le (.c ν0) (.s (.m 2 ξ0) (.n 13))) (.le ξ0 (.n 31)) [1,1,2] hrl hb1 rfl) 5 0 s.len false s.ch ch' len' hby hr
  have hcc := addF_cl 5 0 s.len false s.ch ch' len' hr
  rw [show (0 : Int).toNat = 0 from rfl,List.drop_zero] at q4
  have hw : Wr block check pos0 ch'.flatten ((esA ++ esB) ++ es) := by rw [q1];exact h1.append hb (by rw [← h2];exact q2)
  have hlen : len' = pos0 + (ch'.flatten.length : Int) := by rw [q1,List.length_append,q3,h2];push_cast;exact η0 [_] [_,_] (.eq (.a (.a ξ0 (.c ν0)) (.c ν1)) (.a ξ0 (.a (.c ν0) (.c ν1)))) [1] [1] rfl
  have he := q2.ends hb
  have ha := adj_le (block := block) (pos := s.len) hb
  have hss : newStep ns block check border k s = ⟨ch',len',if border ≤ adj block s.len then s.sure ++ [rcF ns block check k] else s.sure⟩ := by unfold newStep;rw [hr];rfl
  rw [hss]
  refine ⟨?_,?_,hcb,?_,by dsimp only;exact ω2 [] [_,_,_] (.Le ν0 (.m 10 (.a ν1 (.n 1)))) (.Le ν0 (.a ν2 (.m 2 (.n 5)))) (.Le ν2 (.m 10 ν1)) hcc hcl rfl⟩
  ·by_cases hs : border ≤ adj block s.len
   ·simp only [if_pos hs]
    refine ⟨esA,esB ++ es,rsA,by rw [← List.append_assoc];exact hw,hlen,h3,h4.append (RL.one q4),?_,fun _ => ?_⟩
    ·intro e hm
     rcases List.mem_append.mp hm with m | m
     ·exact h5 e m
     ·have := he e m;exact ω2 [_,_,_] [] (.le (.a ξ0 (.n 7)) ξ1) (.le (.a ξ2 (.n 7)) ξ1) (.le ξ0 ξ2) this hs rfl
    ·-- behind an add the length is behind its beginning
     have : adj block s.len ≤ len' := q3 ▸ wr_adj hb q2 q4.ne
     exact ω2 [_,_,_] [] (.le ξ0 ξ1) (.le ξ2 ξ1) (.le ξ0 ξ2) this hs rfl
   ·simp only [if_neg hs]
    have hse : s.sure = [] := by
     by_cases q : s.sure = []
     ·exact q
     ·exact absurd (h6 q) (by exact ω2 [_,_,_] [] (.nle ξ0 ξ1) (.nle ξ0 ξ2) (.le ξ1 ξ2) hs ha rfl)
    have hB : esB = [] := h4.nil_inv hse
    subst hB
    rw [List.append_nil] at hw
    refine ⟨esA ++ es,[],rsA ++ [rcF ns block check k],by rw [List.append_nil];exact hw,hlen,h3.append (RL.one q4),h4,h5,fun q => absurd hse q⟩
  ·dsimp only;rw [q1,List.length_append];push_cast;exact ω2 [] [_,_,_] (.le (.a (.c ν0) (.c ν1)) (.r (.a (.c ν2) (.n 1)) 185)) (.le (.c ν1) (.n 185)) (.le (.c ν0) (.r (.c ν2) 185)) hxl hsz rfl
  ·dsimp only;split
   ·rw [List.length_append];simp only [List.length_cons,List.length_nil];exact ω1 [] [_,_] (.Le (.a ν0 (.a (.n 0) (.n 1))) (.a ν1 (.n 1))) (.Le ν0 ν1) hsl rfl
   ·exact δG hsl
where
 wr_adj {block check pos : Int} {x : Y} {es : List Ev} (hb : 8 ≤ block) (h : Wr block check pos x es) (hne : es ≠ []) : adj block pos ≤ pos + (x.length : Int) := by
  cases h with
  | nil => exact absurd rfl hne
  | fill h t =>
   have hm := Int.emod_lt_of_pos pos (show 0 < block by exact δl hb rfl)
   unfold adj;rw [if_pos h,List.length_append,List.length_replicate];exact ω1 [_,_,_] [_,_] (.le (.a ξ0 (.s ξ1 ξ2)) (.a ξ0 (.c (.a ν0 ν1)))) (.le (.s ξ1 ξ2) (.c ν0)) (Int.self_le_toNat _) rfl
  | frag hr hk t => unfold adj;rw [if_neg (by exact ω1 [_,_] [_] (.nlt (.s ξ0 ξ1) (.n 7)) (.le (.a (.n 7) (.c ν0)) (.s ξ0 ξ1)) hr rfl)];exact κ0 [_] [_] (.le ξ0 (.a ξ0 (.c ν0))) [1] rfl
noncomputable def EvOK (n : Nat) (e : Ev) : Prop := -2 ≤ e.1 ∧ e.1 < 256 ∧ e.2.1.length ≤ n
theorem pcStep_ev {check up : Int} {sh : Bool} {p : Y} (hb : Byt p) (h7 : 7 ≤ (p.length : Int)) :
  (∀ e ∈ (pcStep check sh up ⟨[],false,p⟩).f,EvOK p.length e) ∧ 7 * (pcStep check sh up ⟨[],false,p⟩).f.length + (pcStep check sh up ⟨[],false,p⟩).p.length ≤ p.length ∧ Byt (pcStep check sh up ⟨[],false,p⟩).p := by
 have b4 := ϱT hb (4 : Int).toNat
 have b5 := ϱT hb (5 : Int).toNat
 have s7 : 7 ≤ pSz p := by unfold pSz;exact κ2 [_,_] [] (.le (.n 7) (.a (.a (.n 7) ξ0) (.m 256 ξ1))) (.le (.n 0) ξ1) (.le (.n 0) ξ0) [1,256,1] b5.1 b4.1 rfl
 by_cases h1 : (p.length : Int) < pSz p ∧ sh = true
 ·rw [pc1 h1.1 h1.2]
  exact ⟨(fun e h => nomatch h),by simp,byt_nil⟩
 ·by_cases h2 : pSz p = 7 ∧ (pPc p).getD (6 : Int).toNat 0 = 0
  ·rw [pc2 h1 h2.1 h2.2]
   refine ⟨fun e h => ?_,by simp;exact ω1 [] [_] (.Le (.n 7) ν0) (.le (.n 7) (.c ν0)) h7 rfl,byt_nil⟩
   have := List.mem_singleton.mp h;subst this;exact ⟨by decide,by decide,by simp⟩
  ·by_cases h3 : (p.length : Int) < pSz p ∨ fragY ((pPc p).getD (6 : Int).toNat 0) (pBd p) check ≠ pPc p
   ·rw [pc3 h1 h2 h3]
    refine ⟨fun e h => ?_,by simp;exact ω1 [] [_] (.Le (.n 7) ν0) (.le (.n 7) (.c ν0)) h7 rfl,byt_nil⟩
    have := List.mem_singleton.mp h;subst this;exact ⟨by dsimp only;decide,by dsimp only;decide,by simp⟩
   ·rw [pc4 h1 h2 h3]
    have hl : ¬ (p.length : Int) < pSz p := fun x => h3 (.inl x)
    refine ⟨fun e h => ?_,?_,byt_cut hb _ _⟩
    ·have := List.mem_singleton.mp h;subst this
     have g : 0 ≤ (pPc p).getD (6 : Int).toNat 0 ∧ (pPc p).getD (6 : Int).toNat 0 < 256 := ϱT (byt_cut hb none (some (pSz p))) (6 : Int).toNat
     exact ⟨by dsimp only;exact δj g.1 rfl,by dsimp only;exact δi g.2 rfl,ϱz (ϱz (Nat.le_refl _))⟩
    ·simp only [List.nil_append,List.length_cons,List.length_nil]
     rw [ϱs _ (by exact δj s7 rfl),List.length_drop];omega
theorem pcs_ev {check up : Int} {sh : Bool} : ∀ (n : Nat) (p : Y),Byt p → (∀ e ∈ (pcs check sh up n ⟨[],false,p⟩).f,EvOK p.length e) ∧ 7 * (pcs check sh up n ⟨[],false,p⟩).f.length ≤ p.length
 | 0,p,hb => ⟨(fun e h => nomatch h),by simp [pcs]⟩
 | n + 1,p,hb => by
  by_cases h7 : 7 ≤ (p.length : Int)
  ·have e1 : pcs check sh up (n + 1) ⟨[],false,p⟩ = pcs check sh up n (pcStep check sh up ⟨[],false,p⟩) := by simp only [pcs,if_pos h7]
   obtain ⟨a1,a2,a3⟩ := pcStep_ev (check := check) (up := up) (sh := sh) hb h7
   rw [e1]
   generalize pcStep check sh up ⟨[],false,p⟩ = s at a1 a2 a3
   obtain ⟨f,t,q⟩ := s
   dsimp only at a1 a2 a3
   obtain ⟨i1,i2⟩ := pcs_ev (check := check) (up := up) (sh := sh) n q a3
   rw [ϰau]
   refine ⟨fun e h => ?_,?_⟩
   ·rcases List.mem_append.mp h with m | m
    ·exact a1 e m
    ·have := i1 e m;exact ⟨this.1,this.2.1,by have := this.2.2;exact ω2 [] [_,_,_,_] (.Le ν0 ν1) (.Le ν0 ν2) (.Le (.a (.m 7 ν3) ν2) ν1) this a2 rfl⟩
   ·dsimp only;rw [List.length_append];exact ω2 [] [_,_,_,_] (.Le (.m 7 (.a ν0 ν1)) ν2) (.Le (.m 7 ν1) ν3) (.Le (.a (.m 7 ν0) ν3) ν2) i2 a2 rfl
  ·have e1 : pcs check sh up (n + 1) ⟨[],false,p⟩ = ⟨[],false,p⟩ := ϱS h7
   rw [e1];exact ⟨(fun e h => nomatch h),by simp⟩
theorem flatMap_le {α β : Type} {g : α → List β} {m : Nat} : ∀ (l : List α),(∀ a ∈ l,(g a).length ≤ m) → (l.flatMap g).length ≤ m * l.length
 | [],_ => by simp
 | a :: l,h => by
  have i := flatMap_le l (fun b hb => h b (.tail _ hb))
  have := h a (.head _)
  rw [List.flatMap_cons,List.length_append,List.length_cons,Nat.mul_add];exact ω2 [] [_,_,_,_] (.Le (.a ν0 ν1) (.a ν2 (.r ν3 1))) (.Le ν0 ν3) (.Le ν1 ν2) this i rfl
theorem pieces_ev {d : Y} {block check : Int} (hd : Byt d) (hb : 8 ≤ block) (hb1 : block ≤ 31) (hz : d.length ≤ 2000) : (∀ e ∈ (piecesF d block check).1,EvOK 31 e) ∧ (piecesF d block check).1.length ≤ 1100 := by
 rw [ϱA]
 dsimp only
 unfold tailE
 have hp : ∀ i,(bkPart d block i).length ≤ 31 := fun i => bkPart_len hb hb1
 have hby : ∀ i,Byt (bkPart d block i) := fun i => by rw [ϱv hb];exact byt_sl hd _ _
 refine ⟨fun e he => ?_,?_⟩
 ·obtain ⟨i,_,hi⟩ := List.mem_flatMap.mp he
  have := (pcs_ev (check := check) (up := 0 + (i : Int) * block + ((bkPart d block i).length : Int)) (sh := decide (((bkPart d block i).length : Int) < block)) (bkPart d block i).length _ (hby i)).1 e hi
  exact ⟨this.1,this.2.1,Nat.le_trans this.2.2 (hp i)⟩
 ·refine Nat.le_trans (flatMap_le (m := 4) _ fun i _ => ?_) ?_
  ·have := (pcs_ev (check := check) (up := 0 + (i : Int) * block + ((bkPart d block i).length : Int)) (sh := decide (((bkPart d block i).length : Int) < block)) (bkPart d block i).length _ (hby i)).2
   have := hp i
   unfold blk;exact κ2 [] [_,_] (.Le ν0 (.n 4)) (.Le ν1 (.n 31)) (.Le (.m 7 ν0) ν1) [7,1,1] this (by assumption) rfl
  ·rw [List.length_range']
   have hn : nBk d block ≤ 251 := by
    by_cases q : nBk d block = 0
    ·exact δN q rfl
    ·have := (nBk_lt (d := d) hb (nBk d block - 1)).mp (by omega)
     have h2 : ((nBk d block - 1 : Nat) : Int) * 8 ≤ ((nBk d block - 1 : Nat) : Int) * block := Int.mul_le_mul_of_nonneg_left hb (by exact δz _)
     omega
   exact κ2 [] [_,_] (.Le (.m 4 ν0) (.n 1100)) (.Le ν1 (.n 251)) (.Le ν0 ν1) [1,4,4] hn (Nat.sub_le _ _) rfl
theorem fwd_rlen : ∀ (es : List Ev) (b : Bool) (p : Y),(fwd es b p).recs.length ≤ es.length
 | [],_,_ => by simp [fwd]
 | e :: es,b,p => by
  have i := fun b p => fwd_rlen es b p
  have i0 := i false []
  have i1 := i true e.2.1
  have i2 := i true (p ++ e.2.1)
  simp only [List.length_cons]
  by_cases k1 : e.1 = 1
  ·cases b <;> simp [fwd,k1,Tot.add,Tot.rc] <;> exact ω1 [] [_,_] (.Le ν0 ν1) (.Le ν0 ν1) i0 rfl
  by_cases k2 : e.1 = 2
  ·cases b <;> simp [fwd,k2,Tot.add,Tot.rc] <;> exact δG i1
  by_cases k3 : e.1 = 3
  ·cases b <;> simp [fwd,k3,Tot.add,Tot.rc] <;> omega
  by_cases k4 : e.1 = 4
  ·cases b <;> simp [fwd,k4,Tot.add,Tot.rc] <;> omega
  by_cases k5 : e.1 = -2
  ·cases b <;> simp [fwd,k5,Tot.add,Tot.rc] <;> exact δG i0
  by_cases k6 : e.1 = -1
  ·cases b <;> simp [fwd,k6,Tot.add,Tot.rc] <;> exact δG i0
  ·cases b <;> simp [fwd,k1,k2,k3,k4,k5,k6,Tot.add,Tot.rc] <;> exact δG i0
theorem reads_all {d : Y} {block check : Int} (hd : Byt d) (hb : 8 ≤ block) (hb1 : block ≤ 31) (hz : d.length ≤ 2000) :
  ∃ R',Reads d block check RS0 (fwd (piecesF d block check).1 false []).recs R' ∧ R'.skipped = (fwd (piecesF d block check).1 false []).lost ∧ (R'.reasons.length : Int) = (fwd (piecesF d block check).1 false []).whys ∧ R'.breaks = (fwd (piecesF d block check).1 false []).breaks ∧
   R'.torn = ((piecesF d block check).2 || (fwd (piecesF d block check).1 false []).oe) ∧ RInv d block R' ∧ readF d block check 1 false [] R' = some (none,R') ∧ R'.reasons.length ≤ 3000 := by
 obtain ⟨_,hl⟩ := pieces_ev (check := check) hd hb hb1 hz
 have hw := ϰaR (piecesF d block check).1 false []
 obtain ⟨R',r1,r2,r3,r4,r5,r6,r7⟩ := reads_rem (block := block) (check := check) hd _ RS0 rfl (by exact δc hl rfl) (reader_pieces hd hb) ⟨by decide,by decide,by simp,hz,hb,by exact δk hb1 rfl⟩ (by simp;exact κ2 [_] [_] (.le ξ0 (.n 400000)) (.le ξ0 (.m 2 (.c ν0))) (.Le ν0 (.n 1100)) [1,1,2] hw.2 hl rfl)
 refine ⟨R',r1,by rw [r2];simp,by rw [r3];simp,by rw [r4];simp,by rw [r5];simp,r6,r7,?_⟩
 simp at r3;exact κ3 [_] [_,_] (.Le ν0 (.n 3000)) (.eq (.c ν0) ξ0) (.le ξ0 (.m 2 (.c ν1))) (.Le ν1 (.n 1100)) [1,1,1,2] r3 hw.2 hl rfl
theorem ϰbd {d : Y} {block check : Int} : ∀ i,∃ E,tailE d block check 0 = E ++ tailE d block check i
 | 0 => ⟨[],rfl⟩
 | i + 1 => by
  obtain ⟨E,h⟩ := ϰbd (d := d) (block := block) (check := check) i
  by_cases q : i < nBk d block
  ·exact ⟨E ++ (blk d block check i).f,by rw [h,tailE_s q,List.append_assoc]⟩
  ·exact ⟨E,by rw [h,ϰaa (by exact Nat.not_lt.mp q),ϰaa (by exact ω1 [] [_,_] (.Le ν0 (.a ν1 (.n 1))) (.NLt ν1 ν0) q rfl)]⟩
noncomputable abbrev bdF (pos block : Int) : Int := (pos + block - 1) / block * block
theorem border_al {pos block : Int} (hb : 8 ≤ block) (h : pos % block = 0) : bdF pos block = pos := by
 have e := Int.mul_ediv_add_emod pos block
 have e1 : pos + block - 1 = (block - 1) + block * (pos / block) := by exact η2 [_,_,_,_] [] (.eq (.s (.a ξ0 ξ1) (.n 1)) (.a (.s ξ1 (.n 1)) ξ2)) (.eq (.a ξ2 ξ3) ξ0) (.eq ξ3 (.n 0)) [1,1,-1] [1,-1,1] e h rfl
 unfold bdF
 rw [e1,Int.add_mul_ediv_left _ _ (by exact fun hq => δF hb hq rfl),Int.ediv_eq_zero_of_lt (by exact ω1 [_] [] (.le (.n 0) (.s ξ0 (.n 1))) (.le (.n 8) ξ0) hb rfl) (by exact κ0 [_] [] (.lt (.s ξ0 (.n 1)) ξ0) [1] rfl),Int.zero_add,Int.mul_comm];exact η1 [_,_,_] [] (.eq ξ0 ξ1) (.eq (.s (.a ξ1 ξ2) (.n 1)) (.a (.s ξ2 (.n 1)) ξ0)) [1,1] [1,-1] e1 rfl
theorem border_up {pos block : Int} (hb : 8 ≤ block) (h : pos % block ≠ 0) : bdF pos block = pos + (block - pos % block) ∧ bdF pos block = (pos / block + 1) * block := by
 have e := Int.mul_ediv_add_emod pos block
 have h0 := Int.emod_nonneg pos (show block ≠ 0 by exact fun hq => δF hb hq rfl)
 have h1 := Int.emod_lt_of_pos pos (show 0 < block by exact δl hb rfl)
 have e1 : pos + block - 1 = (pos % block - 1) + block * (pos / block + 1) := by rw [Int.mul_add];exact η1 [_,_,_,_] [] (.eq (.s (.a ξ0 ξ1) (.n 1)) (.a (.s ξ2 (.n 1)) (.a ξ3 (.r ξ1 1)))) (.eq (.a ξ3 ξ2) ξ0) [1,1] [1,-1] e rfl
 have e2 : bdF pos block = (pos / block + 1) * block := by
  unfold bdF
  rw [e1,Int.add_mul_ediv_left _ _ (by exact fun hq => δF hb hq rfl),Int.ediv_eq_zero_of_lt (by omega) (by exact ω1 [_,_] [] (.lt (.s ξ0 (.n 1)) ξ1) (.lt ξ0 ξ1) h1 rfl),Int.zero_add]
 refine ⟨?_,e2⟩
 rw [e2,Int.add_mul,Int.mul_comm];exact η1 [_,_,_,_] [] (.eq (.a ξ0 (.m 1 ξ1)) (.a ξ2 (.s ξ1 ξ3))) (.eq (.a ξ0 ξ3) ξ2) [1,-1] [1,1] e rfl
theorem tsubL (n : Nat) {x : Int} (hx : 0 ≤ x) : ((n : Int) + x).toNat - n = x.toNat := by
 obtain ⟨m,rfl⟩ := Int.eq_ofNat_of_zero_le hx
 rw [← Int.natCast_add,Int.toNat_natCast,Int.toNat_natCast,Nat.add_sub_cancel_left]
theorem sure_tail {old x : Y} {block check : Int} {esA esB : List Ev} (hb : 8 ≤ block) (hb1 : block ≤ 31) (h : Wr block check (old.length : Int) x (esA ++ esB)) (he : ∀ e ∈ esB,bdF old.length block + 7 ≤ e.2.2) :
  ∃ t,(piecesF (old ++ x) block check).1 = t ++ esB := by
 rw [ϱA]
 dsimp only
 have h0 : 0 ≤ (old.length : Int) / block := Int.ediv_nonneg (by exact δz _) (by exact δj hb rfl)
 by_cases hm : (old.length : Int) % block = 0
 ·have e := Int.mul_ediv_add_emod (old.length : Int) block
  obtain ⟨i,hi⟩ := Int.eq_ofNat_of_zero_le h0
  have hib : (i : Int) * block = old.length := by rw [← hi,Int.mul_comm];exact η2 [_,_] [_] (.eq ξ0 (.c ν0)) (.eq (.a ξ0 ξ1) (.c ν0)) (.eq ξ1 (.n 0)) [1,-1,1] [1,1,-1] e hm rfl
  obtain ⟨E,hE⟩ := ϰbd (d := old ++ x) (block := block) (check := check) i
  have hdr : (old ++ x).drop ((i : Int) * block).toNat = x := by
   rw [hib,Int.toNat_natCast,List.drop_append,List.drop_of_length_le (Nat.le_refl _)];simp
  obtain ⟨t1,t2⟩ := ws_blocks (d := old ++ x) hb hb1 _ i (esA ++ esB) rfl (by rw [hdr,hib];exact h)
  exact ⟨E ++ esA,by rw [hE,t1,List.append_assoc]⟩
 ·obtain ⟨b1,b2⟩ := border_up hb hm
  obtain ⟨es1,es2,r,q1,q2,q3,q4,q5⟩ := ws_part hb hb1 h _ true _ (Nat.le_refl _) rfl
  obtain ⟨i,hi⟩ := Int.eq_ofNat_of_zero_le (show 0 ≤ (old.length : Int) / block + 1 by exact δJ h0 rfl)
  have hib : (i : Int) * block = bdF old.length block := by rw [← hi];exact b2.symm
  obtain ⟨E,hE⟩ := ϰbd (d := old ++ x) (block := block) (check := check) i
  have hm1 := Int.emod_lt_of_pos (old.length : Int) (show 0 < block by exact δl hb rfl)
  have hdr : (old ++ x).drop ((i : Int) * block).toNat = x.drop (block - (old.length : Int) % block).toNat := by
   rw [hib,b1,List.drop_append,List.drop_of_length_le (by exact ω2 [_,_] [_,_] (.Le ν0 ν1) (.lt ξ0 ξ1) (.le (.a (.c ν0) (.s ξ1 ξ0)) (.c ν1)) hm1 (Int.self_le_toNat _) rfl)]
   rw [List.nil_append];congr 1;exact tsubL _ (by exact δE hm1 rfl)
  obtain ⟨t1,t2⟩ := ws_blocks (d := old ++ x) hb hb1 _ i es2 rfl (by rw [hdr,hib,b1];exact q3)
  rw [← b1] at q5
  have : ∃ t,es2 = t ++ esB := by
   rcases List.append_eq_append_iff.mp q2 with ⟨as,h1,h2⟩ | ⟨bs,h1,h2⟩
   ·-- es1 = esA ++ as,esB = as ++ es2
    cases as with
    | nil => exact ⟨[],by simpa using h2.symm⟩
    | cons a as =>
     exfalso
     have m1 : a ∈ es1 := by rw [h1];simp
     have m2 : a ∈ esB := by rw [h2];simp
     have := q5 a m1;have := he a m2;exact β2 [_,_] [] (.le (.a ξ0 (.n 7)) ξ1) (.le ξ1 ξ0) this (by assumption) rfl
   ·exact ⟨bs,h2⟩
  obtain ⟨t,ht⟩ := this
  exact ⟨E ++ t,by rw [hE,t1,ht,List.append_assoc]⟩
theorem prefix_take {α : Type} {a b : List α} (h : a <+: b) : b.take a.length = a := by
 obtain ⟨t,rfl⟩ := h;simp
structure LawFacts (old : Y) (N : NW) (block check : Int) : Prop where
 bo : Byt old
 lo : old.length ≤ 400
 bd : Byt (old ++ N.ch.flatten)
 ld : (old ++ N.ch.flatten).length ≤ 2000
 len : N.len = ((old ++ N.ch.flatten).length : Int)
 ev : ∀ e ∈ (piecesF (old ++ N.ch.flatten) block check).1,e.2.1.length ≤ 31
 el : (piecesF (old ++ N.ch.flatten) block check).1.length ≤ 1100
 rl : (storyF (piecesF (old ++ N.ch.flatten) block check).1).recs.length ≤ 1100
 rd : ∃ R',Reads (old ++ N.ch.flatten) block check RS0 (storyF (piecesF (old ++ N.ch.flatten) block check).1).recs R' ∧ R'.skipped = (storyF (piecesF (old ++ N.ch.flatten) block check).1).lost ∧ (R'.reasons.length : Int) = (storyF (piecesF (old ++ N.ch.flatten) block check).1).whys ∧
   R'.breaks = (storyF (piecesF (old ++ N.ch.flatten) block check).1).breaks ∧ R'.torn = ((piecesF (old ++ N.ch.flatten) block check).2 || (storyF (piecesF (old ++ N.ch.flatten) block check).1).oe) ∧ RInv (old ++ N.ch.flatten) block R' ∧ readF (old ++ N.ch.flatten) block check 1 false [] R' = some (none,R') ∧ R'.reasons.length ≤ 3000
 ro : ∃ L0 R0,Reads old block check RS0 L0 R0 ∧ L0.length ≤ 1100 ∧ ((storyF (piecesF (old ++ N.ch.flatten) block check).1).recs.map (·.1)).take L0.length = L0.map (·.1)
 su : N.sure.length ≤ (storyF (piecesF (old ++ N.ch.flatten) block check).1).recs.length ∧ ((storyF (piecesF (old ++ N.ch.flatten) block check).1).recs.map (·.1)).drop ((storyF (piecesF (old ++ N.ch.flatten) block check).1).recs.length - N.sure.length) = N.sure
 em : old.length = 0 → (storyF (piecesF (old ++ N.ch.flatten) block check).1).breaks = 0 ∧ (storyF (piecesF (old ++ N.ch.flatten) block check).1).whys = 0 ∧ (piecesF (old ++ N.ch.flatten) block check).2 = false ∧ (storyF (piecesF (old ++ N.ch.flatten) block check).1).oe = false
theorem law_facts {ns : Y} {block check : Int} {n0 m : Nat} (hb : 8 ≤ block) (hb1 : block ≤ 31) (hn : ∀ x ∈ ns,0 ≤ x) (h0 : n0 ≤ 4) (hm : m ≤ 3) :
  LawFacts (oldF ns block check n0) (newF ns block check (bdF (oldF ns block check n0).length block) (oldF ns block check n0).length m) block check := by
 have bo := byt_old (check := check) hb hb1 hn n0
 have lo := oldF_len (ns := ns) (check := check) hb1 hb n0
 obtain ⟨⟨esA,esB,rsA,h1,h2,h3,h4,h5,h6⟩,hsz,hby,hsl,hcl⟩ := new_inv (check := check) (border := bdF (oldF ns block check n0).length block) (pos0 := (oldF ns block check n0).length) hb hb1 hn m
 generalize newF ns block check (bdF (oldF ns block check n0).length block) (oldF ns block check n0).length m = N at *
 generalize oldF ns block check n0 = old at *
 have bd : Byt (old ++ N.ch.flatten) := ϱu bo (byt_flat hby)
 have ld : (old ++ N.ch.flatten).length ≤ 2000 := by rw [List.length_append];exact κ4 [] [_,_,_,_] (.Le (.a ν0 ν1) (.n 2000)) (.Le ν0 (.m 100 ν2)) (.le (.c ν1) (.r (.c ν3) 185)) (.Le ν3 (.n 3)) (.Le ν2 (.n 4)) [1,1,1,185,100] lo hsz hm h0 rfl
 obtain ⟨e1,e2⟩ := pieces_ev (check := check) bd hb hb1 ld
 have hst := story_fwd _ (fun e he => ⟨(e1 e he).1,(e1 e he).2.1⟩)
 have tr : (storyF (piecesF (old ++ N.ch.flatten) block check).1).recs = (fwd (piecesF (old ++ N.ch.flatten) block check).1 false []).recs := congrArg Tot.recs hst
 have tl : (storyF (piecesF (old ++ N.ch.flatten) block check).1).lost = (fwd (piecesF (old ++ N.ch.flatten) block check).1 false []).lost := congrArg Tot.lost hst
 have tw : (storyF (piecesF (old ++ N.ch.flatten) block check).1).whys = (fwd (piecesF (old ++ N.ch.flatten) block check).1 false []).whys := congrArg Tot.whys hst
 have tb : (storyF (piecesF (old ++ N.ch.flatten) block check).1).breaks = (fwd (piecesF (old ++ N.ch.flatten) block check).1 false []).breaks := congrArg Tot.breaks hst
 have to_ : (storyF (piecesF (old ++ N.ch.flatten) block check).1).oe = (fwd (piecesF (old ++ N.ch.flatten) block check).1 false []).oe := congrArg Tot.oe hst
 have hrl := fwd_rlen (piecesF (old ++ N.ch.flatten) block check).1 false []
 refine ⟨bo,by exact κ2 [] [_,_] (.Le ν0 (.n 400)) (.Le ν0 (.m 100 ν1)) (.Le ν1 (.n 4)) [1,1,100] lo h0 rfl,bd,ld,by rw [h2,List.length_append];push_cast;rfl,fun e he => (e1 e he).2.2,e2,by rw [tr];exact ω2 [] [_,_] (.Le ν0 (.n 1100)) (.Le ν0 ν1) (.Le ν1 (.n 1100)) hrl e2 rfl,?_,?_,?_,?_⟩
 ·rw [tr,tl,tw,tb,to_];exact reads_all bd hb hb1 ld
 ·obtain ⟨R0,r1,_⟩ := reads_all (check := check) bo hb hb1 (by exact κ2 [] [_,_] (.Le ν0 (.n 2000)) (.Le ν0 (.m 100 ν1)) (.Le ν1 (.n 4)) [1,1,100] lo h0 rfl)
  obtain ⟨o1,o2⟩ := pieces_ev (check := check) bo hb hb1 (by exact κ2 [] [_,_] (.Le ν0 (.n 2000)) (.Le ν0 (.m 100 ν1)) (.Le ν1 (.n 4)) [1,1,100] lo h0 rfl)
  have hrl0 := fwd_rlen (piecesF old block check).1 false []
  refine ⟨_,R0,r1,by exact ω2 [] [_,_] (.Le ν0 (.n 1100)) (.Le ν0 ν1) (.Le ν1 (.n 1100)) hrl0 o2 rfl,?_⟩
  rw [tr]
  have hp := fwd_pre _ _ false [] (fun e he => (o1 e he).1) (fun e he => (e1 e he).1) (pieces_pre (x := N.ch.flatten) (check := check) bo hb)
  obtain ⟨t,ht⟩ := hp
  rw [← ht,List.map_append,List.take_append_of_le_length (by simp),List.take_of_length_le (by simp)]
 ·obtain ⟨t,ht⟩ := sure_tail hb hb1 h1 h5
  obtain ⟨X,b',p',hX⟩ := fwd_app t esB false []
  have hs := (h4.recs).1 b' p'
  have hr : (fwd (piecesF (old ++ N.ch.flatten) block check).1 false []).recs.map (·.1) = X.map (·.1) ++ N.sure := by rw [ht,hX,List.map_append,hs]
  have hlen : (fwd (piecesF (old ++ N.ch.flatten) block check).1 false []).recs.length = X.length + N.sure.length := by
   have := congrArg List.length hr;simpa using this
  rw [tr]
  refine ⟨by exact κ1 [] [_,_,_] (.Le ν0 ν1) (.Eq ν1 (.a ν2 ν0)) [1,-1] hlen rfl,?_⟩
  rw [hr,hlen,List.drop_append_of_le_length (by simp),List.drop_of_length_le (by simp)];rfl
 ·intro hz
  have ho : old = [] := List.eq_nil_of_length_eq_zero hz
  subst ho
  rw [tw,tb,to_,ϱA]
  dsimp only
  obtain ⟨t1,t2⟩ := ws_blocks (d := [] ++ N.ch.flatten) (check := check) hb hb1 _ 0 (esA ++ esB) rfl (by simpa using h1)
  rw [t1,t2]
  obtain ⟨r1,r2,r3,r4,r5⟩ := (h3.append h4).recs
  exact ⟨r4,r3,rfl,r5⟩
section
variable {c : Cx} {σ : St} {Φ : AFl → St → Prop}
theorem ϰaJ {K : Frag} {f : Addr} {oc oc' : Value} {od od' : Option Addr} {osl osl' : Array (Option Value)} {name qual name' qual' : Str} {params params' : Arguments} {body body' : List Stmt} {scope scope' : Scope} {dV kV doc pm cdv ct dV' kV' doc' pm' cdv' ct' : Value} {an an' : Option Addr} (n k : Nat)
  (ho : K.lookup f = some ⟨oc,od,.func (fnOf name qual params body scope dV kV doc pm an cdv ct),osl⟩)
  (h2 : K.lookup f = some ⟨oc',od',.func (fnOf name' qual' params' body' scope' dV' kV' doc' pm' an' cdv' ct'),osl'⟩)
  (h : WSs c ((body'.drop n).take k ++ body.drop (n + k)) σ Φ) : WSs c (body.drop n) σ Φ := by
 have e := ho.symm.trans h2
 have e' : body = body' := by
  injection e with e1
  injection e1 with _ _ e3 _
  have e4 := congrArg (fun d : Data => match d with | .func g => some g.body | _ => none) e3
  exact FuncBody.stmts.inj (Option.some.inj e4)
 subst e'
 have : (body.drop n).take k ++ body.drop (n + k) = body.drop n := by rw [← List.drop_drop];exact List.take_append_drop k _
 rw [this] at h
 exact h
theorem nums_ok {y z : Str} {py pz spos p1 p2 p3 px pc p pos' pos : Pos} {k1 kk : Nat} {l : Addr} {vs : List Value} {ns : List Int} (gy : GetL z (.ref l) σ.loc) (hls : c.h0.IsList l vs.toArray) (hi : IntsAre vs ns) (hz : ns.length ≤ 1000)
  (hsw : swapsWith (.ListComp (.BinOp (.Name "x" p1) .Mod (.Constant (.int 999983) k1 p2) p3) [⟨.Name "x" px,.Subscript (.Name z pz) (.Slice none (some (.Constant (.int 10) kk pc)) none p) pos',[],0⟩] { kind := .function,names := [(".0",.local),("x",.local)],isGenerator := false,isCoroutine := false,more := [] } pos) (some (.Name y py)) spos.line c.env = pure true)
  (hs : ∀ v,foldedSetIterable (.Subscript (.Name z pz) (.Slice none (some (.Constant (.int 10) kk pc)) none p) pos') c.env v = pure v) (hy : c.env.kindOf y = some .local)
  (h : ∀ D',∃ loc',SetL y (.ref D') σ.loc loc' ∧ ∀ D,Φ .next ⟨loc',(D',.list (((ns.take 10).map (fun k => k % 999983)).map AV.int)) :: (D,.list ((ns.take 10).map AV.int)) :: σ.hp⟩) :
  WS c (.Assign [.Name y py] (.ListComp (.BinOp (.Name "x" p1) .Mod (.Constant (.int 999983) k1 p2) p3) [⟨.Name "x" px,.Subscript (.Name z pz) (.Slice none (some (.Constant (.int 10) kk pc)) none p) pos',[],0⟩] { kind := .function,names := [(".0",.local),("x",.local)],isGenerator := false,isCoroutine := false,more := [] } pos) spos) σ Φ :=
 WS.assignComp el_nums hsw closure_nil (by decide) (by decide) (it_script gy hls hi (by decide) hz fun D => ⟨(fun p hp => nomatch hp),.inr ⟨D,_,_,rfl,Pick.head _,(by
  have := List.length_take_le 10 ns
  show (ns.take 10).length ≤ 1000000
  exact δc this rfl),(fun _ _ => trivial),fun D' => by
   obtain ⟨loc',h1,h2⟩ := h D'
   exact ⟨loc',h1,h2 D⟩⟩⟩) hs hy
end
section
variable {c : Cx} {σ : St} {Φ : AV → St → Prop}
theorem WE.joinC {kk pc apos pos} {e : Expr} (h : WE c e σ fun v σ2 => ∃ (l : Addr) (ps : List (List Int)) (rest : List (Addr × AO)),v = .ref l ∧ Pick (l,.list (ps.map AV.bytes)) σ2.hp rest ∧ ps.flatten.length ≤ 16777216 ∧ Φ (.bytes ps.flatten) σ2)
  (hp : plainArgs c pos [e]) (hse : starEach [e] c.env = (false,eval e c.env) :: starEach [] c.env)
  (he : eval (.Call (.Attribute (.Constant (.bytes []) kk pc) "join" apos) [e] [] pos) c.env = (do
   let ov ← eval (.Constant (.bytes []) kk pc) c.env
   standAt apos.atName
   let (f,first) ← holding [ov] (getMethod ov "join" (do return (← importBound (.Constant (.bytes []) kk pc) c.env).getD true))
   callWith pos f first (backTo pos (starEach [e] c.env)) [])) : WE c (.Call (.Attribute (.Constant (.bytes []) kk pc) "join" apos) [e] [] pos) σ Φ := WE.joinB h _ hp hse he
theorem joinK {l : Addr} {ps : List Y} {hp rest : List (Addr × AO)} {P : List Y → Prop} (pk : Pick (l,.list (ps.map AV.bytes)) hp rest) (hz : ps.flatten.length ≤ 16777216) (h : P ps) : ∃ (l' : Addr) (ps' : List (List Int)) (rest' : List (Addr × AO)),AV.ref l = .ref l' ∧ Pick (l',.list (ps'.map AV.bytes)) hp rest' ∧ ps'.flatten.length ≤ 16777216 ∧ P ps' := ⟨l,ps,rest,rfl,pk,hz,h⟩
end
theorem ns_tt {block len bd : Int} {α : Type} {a b : α} (h1 : block - len % block < 7) (h2 : bd ≤ len + (block - len % block)) : (if bd ≤ adj block len then a else b) = a := by unfold adj;rw [if_pos h1,if_pos h2]
theorem ns_tf {block len bd : Int} {α : Type} {a b : α} (h1 : block - len % block < 7) (h2 : ¬ bd ≤ len + (block - len % block)) : (if bd ≤ adj block len then a else b) = b := by unfold adj;rw [if_pos h1,if_neg h2]
theorem ns_ft {block len bd : Int} {α : Type} {a b : α} (h1 : ¬ block - len % block < 7) (h2 : bd ≤ len) : (if bd ≤ adj block len then a else b) = a := by unfold adj;rw [if_neg h1,if_pos h2]
theorem ns_ff {block len bd : Int} {α : Type} {a b : α} (h1 : ¬ block - len % block < 7) (h2 : ¬ bd ≤ len) : (if bd ≤ adj block len then a else b) = b := by unfold adj;rw [if_neg h1,if_neg h2]
theorem nst {ns : Y} {block check bd len0 : Int} {i : Nat} {r : List Y × Int} (h : addF (rcF ns block check i) block check 5 0 (newF ns block check bd len0 i).len false (newF ns block check bd len0 i).ch = some r) :
  newF ns block check bd len0 (i + 1) = ⟨r.1,r.2,if bd ≤ adj block (newF ns block check bd len0 i).len then (newF ns block check bd len0 i).sure ++ [rcF ns block check i] else (newF ns block check bd len0 i).sure⟩ := by
 show newStep _ _ _ _ _ _ = _
 unfold newStep;rw [h];rfl
theorem Reads.at {d : Y} {block check : Int} {R R' : RS} {L : List (Y × Int)} {i : Nat} (hi : i < L.length) (h : Reads d block check R (L.drop i) R') :
  ∃ n R1,n ≤ 4000 ∧ R.reasons.length ≤ 500000 ∧ RInv d block R ∧ readF d block check n false [] R = some (some (L[i]).1,R1) ∧ R1.good = (L[i]).2 ∧ Reads d block check R1 (L.drop (i + 1)) R' := by
 rw [List.drop_eq_getElem_cons hi] at h
 generalize L[i] = e at h ⊢
 generalize L.drop (i + 1) = T at h ⊢
 cases h with
 | cons hi hz hn h hr => exact ⟨_,_,hn,hz,hi,h,rfl,hr⟩
theorem Reads.end_ {d : Y} {block check : Int} {R R' : RS} (h : Reads d block check R [] R') : ∃ n,n ≤ 4000 ∧ R.reasons.length ≤ 500000 ∧ RInv d block R ∧ readF d block check n false [] R = some (none,R') := by
 cases h with
 | nil hi hz hn h => exact ⟨_,hn,hz,hi,h⟩
section
variable {c : Cx} {σ : St} {dp un : Nat} {Φ : AV → St → Prop}
theorem read_some {d : Y} {block check : Int} {x rl : Addr} {R R1 : RS} {y : Y} {r1 rest : List (Addr × AO)} {n : Nat} (hK : c.K = mk0.heap_1 c.w.params) (hr : dp + 5 < 900) (hcb0 : c.cb = true) (hbd : Byt d) (hi : RInv d block R) (hk : check = 1 ∨ check = 2) (hn : n ≤ 4000) (hz : R.reasons.length ≤ 500000) (hres : readF d block check n false [] R = some (some y,R1)) (pk1 : Pick (x,.inst 233 (rsF d block check rl R)) σ.hp r1) (pk2 : Pick (rl,.list R.reasons) r1 rest) (h : Φ (.bytes y) ⟨σ.loc,(x,.inst 233 (rsF d block check rl R1)) :: (rl,.list R1.reasons) :: rest⟩) : Enters c dp un 230 [.ref x] σ Φ :=
 read_ok hK hr hcb0 hbd hi hk hn hz hres pk1 pk2 h
theorem read_none {d : Y} {block check : Int} {x rl : Addr} {R R1 : RS} {r1 rest : List (Addr × AO)} {n : Nat} (hK : c.K = mk0.heap_1 c.w.params) (hr : dp + 5 < 900) (hcb0 : c.cb = true) (hbd : Byt d) (hi : RInv d block R) (hk : check = 1 ∨ check = 2) (hn : n ≤ 4000) (hz : R.reasons.length ≤ 500000) (hres : readF d block check n false [] R = some (none,R1)) (pk1 : Pick (x,.inst 233 (rsF d block check rl R)) σ.hp r1) (pk2 : Pick (rl,.list R.reasons) r1 rest) (h : Φ .none ⟨σ.loc,(x,.inst 233 (rsF d block check rl R1)) :: (rl,.list R1.reasons) :: rest⟩) : Enters c dp un 230 [.ref x] σ Φ :=
 read_ok hK hr hcb0 hbd hi hk hn hz hres pk1 pk2 h
end
theorem take_recs {L : List (Y × Int)} {i : Nat} (hi : i < L.length) : ((L.take (i + 1)).map (·.1)).map AV.bytes = ((L.take i).map (·.1)).map AV.bytes ++ [.bytes (L[i]).1] := by
 rw [List.take_succ_eq_append_getElem hi,List.map_append,List.map_append];rfl
noncomputable abbrev GM : List (Str × AV) := [("len",.raw (.builtin "len")),("_law_draw",.raw (.ref 251)),("_law_old",.raw (.ref 256)),("LogWriter",.raw (.ref 184)),("range",.raw (.type "range")),("min",.raw (.builtin "min")),("bytes",.raw (.type "bytes")),("_law_pieces",.raw (.ref 263)),("_law_story",.raw (.ref 270)),("LogReader",.raw (.ref 233)),("bytearray",.raw (.type "bytearray")),("isinstance",.raw (.builtin "isinstance")),("read_all",.raw (.ref 244)),("_law_refused",.raw (.ref 277))]
set_option maxHeartbeats 4000000
section
variable {c : Cx} {σ : St} {dp un : Nat} {Φ : AV → St → Prop}
end
theorem lawP1 {c : Cx} {ca : Addr} {Φ : AFl → St → Prop} {oc : Value} {od : Option Addr} {osl : Array (Option Value)} {name qual : Str} {params : Arguments} {body : List Stmt} {scope : Scope} {dV kV doc pm cdv ct : Value} {an : Option Addr} {sl : Addr} {vs : List Value} {src : Y} (ho : (mk0.heap_1 c.w.params).lookup 282 = some ⟨oc,od,.func (fnOf name qual params body scope dV kV doc pm an cdv ct),osl⟩) (hK : c.K = mk0.heap_1 c.w.params) (hdp : c.dp < 400) (hcb : c.cb = true) (hun : c.un < cLine) (hG : c.glob = GM) (hcl : c.cl = [(("z" : Str),ca)]) (hkz : c.env.kindOf "z" = some .cell) (hkn : c.env.kindOf "nums" = some .local) (hls : c.h0.IsList sl vs.toArray) (hi : IntsAre vs src) (hzs : src.length ≤ 1000) (h : ∀ (l : Addr) (ns : Y),0 < ns.length → ns.length < 100 → (∀ x ∈ ns,0 ≤ x) → WSs c (body.drop 2) ⟨[("script",none),("nums",some (.ref l)),("a",none),("block",none),("check",none),("old",none),("sink",none),("writer",none),("border",none),("sure",none),("k",none),("size",none),("record",none),("begin",none),("data",none),("found",none),("torn",none),("records",none),("lost",none),("whys",none),("breaks",none),("open_end",none),("reader",none),("given",none),("octets",none),("end",none),("first",none)],[(l,.list (ns.map AV.int)),(ca,.cell none)]⟩ Φ) : WSs c (body.drop 0) ⟨[("script",some (.ref sl)),("nums",none),("a",none),("block",none),("check",none),("old",none),("sink",none),("writer",none),("border",none),("sure",none),("k",none),("size",none),("record",none),("begin",none),("data",none),("found",none),("torn",none),("records",none),("lost",none),("whys",none),("breaks",none),("open_end",none),("reader",none),("given",none),("octets",none),("end",none),("first",none)],[(ca,.cell none)]⟩ Φ := by
 refine ϰaJ 0 2 ho (by k_is) ?_
 simp only [List.drop_succ_cons,List.drop_zero,List.take_succ_cons,List.take_zero,List.cons_append,List.nil_append]
 have F : Fix mk0.heap_1 c 400 := ⟨hK,by exact δd hdp rfl⟩
 have Fd := F.dp
 have hc184 := ϰan F.K
 have hc233 := ϱt F.K
 have hbk : c.env.blockKind = .function := by unfold Env.blockKind;rw [show c.env.scope.kind = .function from c.hk];rfl
 have hl10 : ((src.take 10).map (fun k => k % 999983)).length ≤ 10 := by rw [List.length_map];exact List.length_take_le 10 src
 have hnn : ∀ x ∈ (src.take 10).map (fun k => k % 999983),0 ≤ x := by intro x hx;obtain ⟨y,_,rfl⟩ := List.mem_map.mp hx;exact δn rfl
 refine' ϰh ?_
 refine' nums_ok G0 hls hi hzs (by show (pure (c.env.blockKind == .function && c.env.kindOf "nums" == some .local && _ && _) : Sem Bool) = pure true;rw [hbk,hkn];rfl) (by intro _;rfl) hkn (fun D' => ?_)
 refine ⟨_,by exact S1,fun D => ?_⟩;dsimp only [cA,nA];refine' ϰd ?_;refine' itn ?_;refine' ϰu ?_ rfl
 refine' ϰs hG M0 (.c (.nm G1) .n rfl) rfl ?_;refine' ϰT P0 ?_ ?_;exact δc hl10 rfl;refine' ϰi ?_;refine' ϰaj ?_;refine' isB ?_
 refine' qD (fun hc => ?_) (fun hc => ?_);refine' asn ?_ rfl;refine' ϰF ?_;refine' ϰz (.c .i .n rfl) ?_
 refine' ϱr (zl rfl) (fun _ => ?_);dsimp only [cA,nA];refine' setN S1 ?_;refine' ϰf ?_;refine' ϰd ?_;rotate_left
 refine' ϰf ?_;refine' ϰd ?_;rotate_left
 all_goals first
  |(refine' W.pre ?le (h _ [5] (by decide) (by decide) (by decide));(case le => exact ⟨by exact LM 1 _,by exact .cons P0 (.cons P2 (.nil _))⟩))
  |(refine' W.pre ?le (h _ ((src.take 10).map (fun k => k % 999983)) (by omega) (by exact ω1 [] [_] (.Lt ν0 (.n 100)) (.Le ν0 (.n 10)) hl10 rfl) hnn);(case le => exact ⟨by exact LM 1 _,by exact .cons P0 (.cons P1 (.nil _))⟩))
  | trace_state
set_option maxHeartbeats 4000000
section
variable {c : Cx} {σ : St} {dp un : Nat} {Φ : AV → St → Prop}
end
theorem lawP2 {c : Cx} {ca : Addr} {Φ : AFl → St → Prop} {oc : Value} {od : Option Addr} {osl : Array (Option Value)} {name qual : Str} {params : Arguments} {body : List Stmt} {scope : Scope} {dV kV doc pm cdv ct : Value} {an : Option Addr} {l : Addr} {ns : Y} (ho : (mk0.heap_1 c.w.params).lookup 282 = some ⟨oc,od,.func (fnOf name qual params body scope dV kV doc pm an cdv ct),osl⟩) (hK : c.K = mk0.heap_1 c.w.params) (hdp : c.dp < 400) (hcb : c.cb = true) (hun : c.un < cLine) (hG : c.glob = GM) (hcl : c.cl = [(("z" : Str),ca)]) (hkz : c.env.kindOf "z" = some .cell) (hkn : c.env.kindOf "nums" = some .local) (hn : 0 < ns.length) (hz : ns.length < 100) (hnn : ∀ x ∈ ns,0 ≤ x) (h : ∀ a ck : Int,0 ≤ a → ck = 1 ∨ ck = 2 → WSs c (body.drop 6) ⟨[("script",none),("nums",some (.ref l)),("a",some (.int a)),("block",some (.int (8 + a % 24))),("check",some (.int ck)),("old",none),("sink",none),("writer",none),("border",none),("sure",none),("k",none),("size",none),("record",none),("begin",none),("data",none),("found",none),("torn",none),("records",none),("lost",none),("whys",none),("breaks",none),("open_end",none),("reader",none),("given",none),("octets",none),("end",none),("first",none)],[(l,.list (ns.map AV.int)),(ca,.cell none)]⟩ Φ) : WSs c (body.drop 2) ⟨[("script",none),("nums",some (.ref l)),("a",none),("block",none),("check",none),("old",none),("sink",none),("writer",none),("border",none),("sure",none),("k",none),("size",none),("record",none),("begin",none),("data",none),("found",none),("torn",none),("records",none),("lost",none),("whys",none),("breaks",none),("open_end",none),("reader",none),("given",none),("octets",none),("end",none),("first",none)],[(l,.list (ns.map AV.int)),(ca,.cell none)]⟩ Φ := by
 refine ϰaJ 2 4 ho (by k_is) ?_
 simp only [List.drop_succ_cons,List.drop_zero,List.take_succ_cons,List.take_zero,List.cons_append,List.nil_append]
 have F : Fix mk0.heap_1 c 400 := ⟨hK,by exact δd hdp rfl⟩
 have Fd := F.dp
 have hc184 := ϰan F.K
 have hc233 := ϱt F.K
 have ha0 : 0 ≤ drawF ns 0 := ϱd hnn (by decide)
 refine' asn ?_ rfl;refine' ϰs hG M1 (.c (.nm G1) (.c .i .n rfl) rfl) rfl ?_;refine' ϰw ?_
 (focus (refine' draw_ok F.K (by exact δa Fd rfl) ?_ ?_ hn hz P0 ?_;rotate_left;rotate_left;dsimp only [cA,nA]));refine' setN S2 ?_;refine' asn ?_ rfl
 refine' ϰc ?_;refine' ϰi ?_;refine' ϰc ?_;refine' ϰa G2 ?_;refine' ϰi ?_;refine' ϰC ?_ ?_;decide
 refine' ϰX ?_;refine' setN S3 ?_;dsimp only [cA,nA];refine' asg .i S4 rfl ?_;refine' itn ?_;refine' ϰu ?_ rfl
 refine' ϰc ?_;refine' ϰc ?_;refine' ϰa G2 ?_;refine' ϰi ?_;refine' ϱx ?_ ?_ ?_;decide;decide;refine' ϰi ?_
 refine' ϰC ?_ ?_;decide;refine' ϰi ?_;refine' ϰaj ?_;refine' isB ?_;refine' qD (fun hc => ?_) (fun hc => ?_)
 refine' asg .i S4 rfl ?_;refine' ϰf ?_;refine' ϰd ?_;rotate_left;refine' ϰf ?_;refine' ϰd ?_;rotate_left
 decide;decide
 all_goals first
  |(refine' W.pre ?le (h _ 1 ha0 (.inl rfl));(case le => exact ⟨.refl _,.refl _⟩))
  |(refine' W.pre ?le (h _ 2 ha0 (.inr rfl));(case le => exact ⟨.refl _,.refl _⟩))
  | trace_state
set_option maxHeartbeats 4000000
section
variable {c : Cx} {σ : St} {dp un : Nat} {Φ : AV → St → Prop}
end
theorem lawP3 {c : Cx} {ca : Addr} {Φ : AFl → St → Prop} {oc : Value} {od : Option Addr} {osl : Array (Option Value)} {name qual : Str} {params : Arguments} {body : List Stmt} {scope : Scope} {dV kV doc pm cdv ct : Value} {an : Option Addr} {l : Addr} {ns : Y} {a block ck : Int} (ho : (mk0.heap_1 c.w.params).lookup 282 = some ⟨oc,od,.func (fnOf name qual params body scope dV kV doc pm an cdv ct),osl⟩) (hK : c.K = mk0.heap_1 c.w.params) (hdp : c.dp < 400) (hcb : c.cb = true) (hun : c.un < cLine) (hG : c.glob = GM) (hcl : c.cl = [(("z" : Str),ca)]) (hkz : c.env.kindOf "z" = some .cell) (hkn : c.env.kindOf "nums" = some .local) (hn : 0 < ns.length) (hz : ns.length < 100) (hnn : ∀ x ∈ ns,0 ≤ x) (hb0 : 8 ≤ block) (hb1 : block ≤ 31) (hk : ck = 1 ∨ ck = 2) (h : ∀ (n0 : Nat) (fl x su : Addr),n0 ≤ 4 → WSs c (body.drop 11) ⟨[("script",none),("nums",some (.ref l)),("a",some (.int a)),("block",some (.int block)),("check",some (.int ck)),("old",some (.bytes (oldF ns block ck n0))),("sink",some (.ref fl)),("writer",some (.ref x)),("border",some (.int (bdF (oldF ns block ck n0).length block))),("sure",some (.ref su)),("k",none),("size",none),("record",none),("begin",none),("data",none),("found",none),("torn",none),("records",none),("lost",none),("whys",none),("breaks",none),("open_end",none),("reader",none),("given",none),("octets",none),("end",none),("first",none)],[(su,.list []),(x,.inst 184 (wF fl block ck (oldF ns block ck n0).length)),(fl,.list []),(l,.list (ns.map AV.int)),(ca,.cell none)]⟩ Φ) : WSs c (body.drop 6) ⟨[("script",none),("nums",some (.ref l)),("a",some (.int a)),("block",some (.int block)),("check",some (.int ck)),("old",none),("sink",none),("writer",none),("border",none),("sure",none),("k",none),("size",none),("record",none),("begin",none),("data",none),("found",none),("torn",none),("records",none),("lost",none),("whys",none),("breaks",none),("open_end",none),("reader",none),("given",none),("octets",none),("end",none),("first",none)],[(l,.list (ns.map AV.int)),(ca,.cell none)]⟩ Φ := by
 refine ϰaJ 6 5 ho (by k_is) ?_
 simp only [List.drop_succ_cons,List.drop_zero,List.take_succ_cons,List.take_zero,List.cons_append,List.nil_append]
 have F : Fix mk0.heap_1 c 400 := ⟨hK,by exact δd hdp rfl⟩
 have Fd := F.dp
 have hc184 := ϰan F.K
 have hc233 := ϱt F.K
 have hv0 : 0 ≤ drawF ns 1 % (if ck = 1 then 3 else 5) ∧ drawF ns 1 % (if ck = 1 then 3 else 5) < 5 := by split <;> omega
 have hol := oldF_len (ns := ns) (check := ck) hb1 hb0 (drawF ns 1 % (if ck = 1 then 3 else 5)).toNat
 have hd1 : 0 ≤ (((oldF ns block ck (drawF ns 1 % (if ck = 1 then 3 else 5)).toNat).length : Int) + block - 1) / block := Int.ediv_nonneg (by exact ω1 [_] [_] (.le (.n 0) (.s (.a (.c ν0) ξ0) (.n 1))) (.le (.n 8) ξ0) hb0 rfl) (by exact δj hb0 rfl)
 have hd2 : (((oldF ns block ck (drawF ns 1 % (if ck = 1 then 3 else 5)).toNat).length : Int) + block - 1) / block ≤ ((oldF ns block ck (drawF ns 1 % (if ck = 1 then 3 else 5)).toNat).length : Int) + block - 1 := Int.ediv_le_self _ (by exact ω1 [_] [_] (.le (.n 0) (.s (.a (.c ν0) ξ0) (.n 1))) (.le (.n 8) ξ0) hb0 rfl)
 refine' asn ?_ rfl;refine' ϰs hG M2 (.c (.nm G1) (.c (.nm G3) (.c (.nm G4) .n rfl) rfl) rfl) rfl ?_;refine' ϰw ?_
 refine' old_ok F.K (by exact δa Fd rfl) hn hz hnn hb0 hb1 hk P0 ?_;dsimp only [cA,nA];refine' setN S5 ?_;refine' asn ?_ rfl;refine' ϰF ?_;refine' ϰl ?_
 refine' ϱr (zl rfl) (fun _ => ?_);dsimp only [cA,nA];refine' setN S6 ?_;refine' asn ?_ rfl;refine' ϰr hG M3 ?_ rfl
 refine' ϰe ?_ rfl;refine' ϰa G6 ?_;refine' ϰe ?_ rfl;refine' ϰa G3 ?_;refine' ϰe ?_ rfl;refine' ϰa G4 ?_
 refine' ϰe ?_ rfl;refine' ϰs hG M0 (.c (.nm G5) .n rfl) rfl ?_;refine' ϰv ?_ ?_;exact κ3 [_] [_,_] (.Le ν0 (.n 16777216)) (.Le ν0 (.m 100 ν1)) (.lt ξ0 (.n 5)) (.eq (.c ν1) ξ0) [1,1,100,100] hol hv0.2 (Int.toNat_of_nonneg (δj hv0.1 rfl)) rfl;refine' ϰl ?_
 refine' mkW_ok F.K (by exact δa Fd rfl) hb0 (by exact δk hb1 rfl) hk (by exact δz _) (fun x => ?_);dsimp only [cA,nA];refine' setN S7 ?_;refine' asn ?_ rfl;refine' ϰc ?_
 refine' ϰc ?_;refine' ϰc ?_;refine' ϰc ?_;refine' ϰs hG M0 (.c (.nm G5) .n rfl) rfl ?_;refine' ϰv ?_ ?_;exact κ3 [_] [_,_] (.Le ν0 (.n 16777216)) (.Le ν0 (.m 100 ν1)) (.lt ξ0 (.n 5)) (.eq (.c ν1) ξ0) [1,1,100,100] hol hv0.2 (Int.toNat_of_nonneg (δj hv0.1 rfl)) rfl
 refine' ϰa G3 ?_;refine' ϰX ?_;refine' ϰi ?_;refine' ϰO ?_;refine' ϰa G3 ?_;refine' ϱx ?_ ?_ ?_;exact δl hb0 rfl;exact δo hb1 rfl
 refine' ϰa G3 ?_;refine' ϰS ?_ ?_ ?_;exact κ6 [_,_,_] [_,_,_] (.Lt ν0 (.n 18446744073709551616)) (.le ξ0 (.s (.a (.c ν1) ξ1) (.n 1))) (.Le ν1 (.m 100 ν2)) (.lt ξ2 (.n 5)) (.le ξ1 (.n 31)) (.eq (.c ν2) ξ2) (.eq (.c ν0) ξ0) [1,1,1,100,1,100,1] hd2 hol hv0.2 hb1 (Int.toNat_of_nonneg (δj hv0.1 rfl)) (Int.natAbs_of_nonneg (δj hd1 rfl)) rfl;exact ω2 [_] [_] (.Lt ν0 (.n 18446744073709551616)) (.le ξ0 (.n 31)) (.eq (.c ν0) ξ0) hb1 (Int.natAbs_of_nonneg (δj hb0 rfl)) rfl;refine' setN S8 ?_;dsimp only [cA,nA];refine' asn ?_ rfl;refine' ϰF ?_
 refine' ϰl ?_;refine' ϱr (zl rfl) (fun _ => ?_);dsimp only [cA,nA];refine' setN S9 ?_;rotate_left
 all_goals first
  |(refine' W.pre ?le (h (drawF ns 1 % (if ck = 1 then 3 else 5)).toNat _ _ _ (by exact ω2 [_] [_] (.Le ν0 (.n 4)) (.lt ξ0 (.n 5)) (.eq (.c ν0) ξ0) hv0.2 (Int.toNat_of_nonneg (δj hv0.1 rfl)) rfl));(case le => exact ⟨by exact .refl _,by exact .refl _⟩))
  | trace_state
set_option maxHeartbeats 4000000
section
variable {c : Cx} {σ : St} {dp un : Nat} {Φ : AV → St → Prop}
end
theorem lawP4 {c : Cx} {ca : Addr} {Φ : AFl → St → Prop} {oc : Value} {od : Option Addr} {osl : Array (Option Value)} {name qual : Str} {params : Arguments} {body : List Stmt} {scope : Scope} {dV kV doc pm cdv ct : Value} {an : Option Addr} {l fl x su : Addr} {ns : Y} {a block ck : Int} {n0 : Nat} (ho : (mk0.heap_1 c.w.params).lookup 282 = some ⟨oc,od,.func (fnOf name qual params body scope dV kV doc pm an cdv ct),osl⟩) (hK : c.K = mk0.heap_1 c.w.params) (hdp : c.dp < 400) (hcb : c.cb = true) (hun : c.un < cLine) (hG : c.glob = GM) (hcl : c.cl = [(("z" : Str),ca)]) (hkz : c.env.kindOf "z" = some .cell) (hkn : c.env.kindOf "nums" = some .local) (hn : 0 < ns.length) (hz : ns.length < 100) (hnn : ∀ x ∈ ns,0 ≤ x) (hb0 : 8 ≤ block) (hb1 : block ≤ 31) (hk : ck = 1 ∨ ck = 2) (hn0 : n0 ≤ 4) (h : ∀ (m : Nat) (cv : Option AV),m ≤ 3 → WSs c (body.drop 12) ⟨[("script",none),("nums",some (.ref l)),("a",some (.int a)),("block",some (.int block)),("check",some (.int ck)),("old",some (.bytes (oldF ns block ck n0))),("sink",some (.ref fl)),("writer",some (.ref x)),("border",some (.int (bdF (oldF ns block ck n0).length block))),("sure",some (.ref su)),("k",none),("size",none),("record",none),("begin",none),("data",none),("found",none),("torn",none),("records",none),("lost",none),("whys",none),("breaks",none),("open_end",none),("reader",none),("given",none),("octets",none),("end",none),("first",none)],[(su,.list ((newF ns block ck (bdF (oldF ns block ck n0).length block) (oldF ns block ck n0).length m).sure.map AV.bytes)),(x,.inst 184 (wF fl block ck (newF ns block ck (bdF (oldF ns block ck n0).length block) (oldF ns block ck n0).length m).len)),(fl,.list ((newF ns block ck (bdF (oldF ns block ck n0).length block) (oldF ns block ck n0).length m).ch.map AV.bytes)),(l,.list (ns.map AV.int)),(ca,.cell cv)]⟩ Φ) : WSs c (body.drop 11) ⟨[("script",none),("nums",some (.ref l)),("a",some (.int a)),("block",some (.int block)),("check",some (.int ck)),("old",some (.bytes (oldF ns block ck n0))),("sink",some (.ref fl)),("writer",some (.ref x)),("border",some (.int (bdF (oldF ns block ck n0).length block))),("sure",some (.ref su)),("k",none),("size",none),("record",none),("begin",none),("data",none),("found",none),("torn",none),("records",none),("lost",none),("whys",none),("breaks",none),("open_end",none),("reader",none),("given",none),("octets",none),("end",none),("first",none)],[(su,.list []),(x,.inst 184 (wF fl block ck (oldF ns block ck n0).length)),(fl,.list []),(l,.list (ns.map AV.int)),(ca,.cell none)]⟩ Φ := by
 refine ϰaJ 11 1 ho (by k_is) ?_
 simp only [List.drop_succ_cons,List.drop_zero,List.take_succ_cons,List.take_zero,List.cons_append,List.nil_append]
 have F : Fix mk0.heap_1 c 400 := ⟨hK,by exact δd hdp rfl⟩
 have Fd := F.dp
 have hc184 := ϰan F.K
 have hc233 := ϱt F.K
 have h6 : 0 ≤ drawF ns 6 := ϱd hnn (by decide)
 have hNI := fun i => new_inv (ns := ns) (check := ck) (border := bdF (oldF ns block ck n0).length block) (pos0 := (oldF ns block ck n0).length) hb0 hb1 hnn i
 have hol := oldF_len (ns := ns) (check := ck) hb1 hb0 n0
 generalize (oldF ns block ck n0).length = ol at *
 generalize bdF (ol : Int) block = bd at *
 rcases hk with rfl | rfl
 ·refine' ϰh ?_;refine' ϱP ?_ (by intro _;rfl);refine' ϰr hG M4 ?_ rfl;refine' ϰe ?_ rfl;refine' WE.ifexp ?_
  refine' ϰU (.eq (.nm G4) .i) ?_;refine' qD (fun hc => ?_) (fun hc => (by exfalso;omega));refine' ϰi ?_;refine' ϰl ?_
  refine' WVs.range1 (fun _ => ?_);dsimp only [cA,nA];rotate_left
  refine ForOK.range (ι := Option AV) 1 (P := fun _ _ => True) (J := fun i o => ⟨[("script",none),("nums",some (.ref l)),("a",some (.int a)),("block",some (.int block)),("check",some (.int 1)),("old",some (.bytes (oldF ns block 1 n0))),("sink",some (.ref fl)),("writer",some (.ref x)),("border",some (.int bd)),("sure",some (.ref su)),("k",none),("size",none),("record",none),("begin",none),("data",none),("found",none),("torn",none),("records",none),("lost",none),("whys",none),("breaks",none),("open_end",none),("reader",none),("given",none),("octets",none),("end",none),("first",none)],[(su,.list ((newF ns block 1 bd ol i).sure.map AV.bytes)),(x,.inst 184 (wF fl block 1 (newF ns block 1 bd ol i).len)),(fl,.list ((newF ns block 1 bd ol i).ch.map AV.bytes)),(l,.list (ns.map AV.int)),(ca,.cell o)]⟩) none P0 (by decide) (by decide) trivial ⟨.refl _,.cons P1 (.cons P1 (.cons P1 (.cons P1 (.cons P1 (.nil _)))))⟩ ?_ ?_
  ·intro i o hi _
   have y0 : 0 ≤ zF ns i := ϱd hnn (by exact κ0 [] [_] (.le (.n 0) (.a (.n 7) (.a (.n 0) (.r (.c ν0) 1)))) [1] rfl)
   have hzm0 : 0 ≤ drawF ns (7 + (0 + (i : Int) * 1)) % (2 * block - 12) := Int.emod_nonneg _ (by exact fun hq => φ2 [_] [] (.le (.n 8) ξ0) (.eq (.s (.m 2 ξ0) (.n 12)) (.n 0)) [2,1] hb0 hq rfl)
   have hzm1 : drawF ns (7 + (0 + (i : Int) * 1)) % (2 * block - 12) < 2 * block - 12 := Int.emod_lt_of_pos _ (by exact κ1 [_] [] (.lt (.n 0) (.s (.m 2 ξ0) (.n 12))) (.le (.n 8) ξ0) [1,2] hb0 rfl)
   have hkk : (1 : Int) = 1 ∨ (1 : Int) = 2 := by decide
   have hrl := rcF_len (check := 1) (i := i) hb0 hnn
   obtain ⟨r,hres⟩ := addF_some (check := 1) (len := (newF ns block 1 bd ol i).len) (ch := (newF ns block 1 bd ol i).ch) hb0 hrl
   have hst := nst hres
   have hyl : (rcF ns block 1 i).length ≤ 1000 := by exact κ2 [_] [_] (.Le ν0 (.n 1000)) (.le (.c ν0) (.s (.m 2 ξ0) (.n 13))) (.le ξ0 (.n 31)) [1,1,2] hrl hb1 rfl
   have hry : rcF ns block 1 i = (rangeKs 0 (if 5 < zF ns i % (2 * block - 12) then 5 else zF ns i % (2 * block - 12)).toNat).map (fun k => (zF ns i / 7 + 3 * k) % 256) := by unfold rcF szF;rw [if_pos rfl]
   obtain ⟨⟨_,_,_,_,hle,_⟩,hsz,hby,hsl,hcl1⟩ := hNI i
   have hi3 : i < 3 := by exact ω1 [] [_] (.Lt ν0 (.n 3)) (.Lt ν0 (.n 1)) hi rfl
   rw [hry] at hres hyl hst
   generalize newF ns block 1 bd ol i = s at *
   obtain ⟨ch,len,sure⟩ := s
   dsimp only at hres hcl1 hsz hsl hst hle
   have hl0 : 0 ≤ len := by exact κ1 [_] [_,_] (.le (.n 0) ξ0) (.eq ξ0 (.a (.c ν0) (.c ν1))) [1,-1] hle rfl
   have hlm0 := Int.emod_nonneg len (show block ≠ 0 by exact fun hq => δF hb0 hq rfl)
   have hlm1 := Int.emod_lt_of_pos len (show 0 < block by exact κ2 [_,_] [] (.lt (.n 0) ξ0) (.lt ξ1 (.s (.m 2 ξ0) (.n 12))) (.le (.n 0) ξ1) [2,1,1] hzm1 hzm0 rfl)
   show WTg c _ _ ⟨[("script",none),("nums",some (.ref l)),("a",some (.int a)),("block",some (.int block)),("check",some (.int 1)),("old",some (.bytes (oldF ns block 1 n0))),("sink",some (.ref fl)),("writer",some (.ref x)),("border",some (.int bd)),("sure",some (.ref su)),("k",none),("size",none),("record",none),("begin",none),("data",none),("found",none),("torn",none),("records",none),("lost",none),("whys",none),("breaks",none),("open_end",none),("reader",none),("given",none),("octets",none),("end",none),("first",none)],[(su,.list (sure.map AV.bytes)),(x,.inst 184 (wF fl block 1 len)),(fl,.list (ch.map AV.bytes)),(l,.list (ns.map AV.int)),(ca,.cell o)]⟩ _
   refine' ϱh S10 ?_;dsimp only [cA,nA];refine' ϰh ?_;refine' WS.assignC hcl hkz ?_ rfl
   refine' ϰs hG M1 (.c (.nm G1) (.c (.add .i (.nm G10)) .n rfl) rfl) rfl ?_;refine' ϰw ?_
   (focus (refine' draw_ok F.K (by exact δa Fd rfl) ?_ ?_ hn hz P3 ?_;rotate_left;rotate_left;dsimp only [cA,nA]));refine' cellK P4 ?_;refine' ϰd ?_
   refine' asn ?_ rfl;refine' ϰc ?_;refine' ϱD hcl hkz P0 ?_;refine' ϰc ?_;refine' ϰc ?_;refine' ϰi ?_
   refine' ϰa G3 ?_;refine' ϰS ?_ ?_ ?_;exact Nat.le_of_ble_eq_true rfl;exact ω2 [_] [_] (.Lt ν0 (.n 18446744073709551616)) (.le ξ0 (.n 31)) (.eq (.c ν0) ξ0) hb1 (Int.natAbs_of_nonneg (ω2 [_,_] [] (.le (.n 0) ξ0) (.lt ξ1 ξ0) (.le (.n 0) ξ1) hlm1 hlm0 rfl)) rfl;refine' ϰi ?_;refine' ϰO ?_;refine' ϰC ?_ ?_;exact ω2 [_,_] [] (.lt (.n 0) (.s (.m 2 ξ0) (.n 12))) (.lt ξ1 (.s (.m 2 ξ0) (.n 12))) (.le (.n 0) ξ1) hzm1 hzm0 rfl
   refine' setN S11 ?_;dsimp only [cA,nA];refine' itc (.eq (.nm G4) .i) ?_;refine' qD (fun hc => ?_) (fun hc => (by exfalso;omega));refine' asn ?_ rfl
   refine' ϰs hG M5 (.c (.nm G11) (.c .i .n rfl) rfl) rfl ?_;refine' ϰbf ?_;refine' setN S11 ?_;dsimp only [cA,nA];refine' ϰf ?_
   refine' ϰd ?_;refine' asn ?_ rfl;refine' ϰr hG M6 ?_ rfl;refine' ϰe ?_ rfl
   (focus (refine' WE.compZ3 hcl hkz hG M4 G11 P0 ?_ ?_ rfl rfl (by intro _;rfl) (fun r D => ?_);rotate_left;rotate_left;dsimp only [cA,nA]))
   refine' ϰl ?_;refine' bytesM P0 ?_ ?_ ?_;exact modM;(focus (simp only [List.length_map,rangeKs_length];omega));refine' setN S12 ?_
   dsimp only [cA,nA];refine' asn ?_ rfl;refine' ϰq (by assumption) G7 P4 M3 GF3 rfl ?_;refine' setN S13 ?_;dsimp only [cA,nA];refine' itn ?_
   refine' ϰu ?_ rfl;refine' ϰc ?_;refine' ϰa G3 ?_;refine' ϰc ?_;refine' ϰa G13 ?_;refine' ϰa G3 ?_
   refine' ϰC ?_ ?_;exact Int.lt_of_le_of_lt hlm0 hlm1;refine' ϰO ?_;refine' ϰi ?_;refine' ϱV ?_;refine' isB ?_;refine' qD (fun hc => ?_) (fun hc => ?_)
   refine' ϰh ?_;refine' ϱf G13 ?_;refine' ϰc ?_;refine' ϰa G3 ?_;refine' ϰc ?_;refine' ϰa G13 ?_
   refine' ϰa G3 ?_;refine' ϰC ?_ ?_;exact Int.lt_of_le_of_lt hlm0 hlm1;refine' ϰO ?_;refine' ϰL ?_;refine' setN S13 ?_;dsimp only [cA,nA];refine' ϰf ?_
   refine' ϰd ?_;refine' itc (.ge (.nm G13) (.nm G8)) ?_;refine' qD (fun hc => ?_) (fun hc => ?_);refine' ϰh ?_;refine' ϰt ?_ rfl
   refine' ϱw ?_ rfl rfl rfl;refine' ϰa G9 ?_;refine' appK1 P3 ?_;refine' ϰa G12 ?_;refine' appK2 P3 (lmp (by omega)) ?_;dsimp only [cA,nA]
   refine' ϰZ ?_;refine' nn ?_;refine' nx ?_;refine' ϰt ?_ rfl;refine' ϰA (by assumption) G7 P4 M1 (of_decide_eq_true rfl) ?_ rfl rfl
   refine' ϰz (.c (.nm G12) .n rfl) ?_;refine' add_ok F.K (by exact δa Fd rfl) hb0 (by exact δk hb1 rfl) hkk hl0 hyl (by exact δL hcl1 hi3 rfl) (n := 5) (by exact Nat.le_of_ble_eq_true rfl) hres P4 P4 ?_
   dsimp only [cA,nA];refine' ϰZ ?_;refine' nn ?_;rotate_left;refine' ϰf ?_;refine' nx ?_;refine' ϰt ?_ rfl
   refine' ϰA (by assumption) G7 P4 M1 (of_decide_eq_true rfl) ?_ rfl rfl;refine' ϰz (.c (.nm G12) .n rfl) ?_
   refine' add_ok F.K (by exact δa Fd rfl) hb0 (by exact δk hb1 rfl) hkk hl0 hyl (by exact δL hcl1 hi3 rfl) (n := 5) (by exact Nat.le_of_ble_eq_true rfl) hres P4 P4 ?_;dsimp only [cA,nA];refine' ϰZ ?_;refine' nn ?_
   rotate_left;refine' ϰf ?_;refine' ϰd ?_;refine' itc (.ge (.nm G13) (.nm G8)) ?_;refine' qD (fun hc => ?_) (fun hc => ?_)
   refine' ϰh ?_;refine' ϰt ?_ rfl;refine' ϱw ?_ rfl rfl rfl;refine' ϰa G9 ?_;refine' appK1 P3 ?_;refine' ϰa G12 ?_
   refine' appK2 P3 (lmp (by omega)) ?_;dsimp only [cA,nA];refine' ϰZ ?_;refine' nn ?_;refine' nx ?_;refine' ϰt ?_ rfl
   refine' ϰA (by assumption) G7 P4 M1 (of_decide_eq_true rfl) ?_ rfl rfl;refine' ϰz (.c (.nm G12) .n rfl) ?_
   refine' add_ok F.K (by exact δa Fd rfl) hb0 (by exact δk hb1 rfl) hkk hl0 hyl (by exact δL hcl1 hi3 rfl) (n := 5) (by exact Nat.le_of_ble_eq_true rfl) hres P4 P4 ?_;dsimp only [cA,nA];refine' ϰZ ?_;refine' nn ?_
   rotate_left;refine' ϰf ?_;refine' nx ?_;refine' ϰt ?_ rfl;refine' ϰA (by assumption) G7 P4 M1 (of_decide_eq_true rfl) ?_ rfl rfl
   refine' ϰz (.c (.nm G12) .n rfl) ?_;refine' add_ok F.K (by exact δa Fd rfl) hb0 (by exact δk hb1 rfl) hkk hl0 hyl (by exact δL hcl1 hi3 rfl) (n := 5) (by exact Nat.le_of_ble_eq_true rfl) hres P4 P4 ?_
   dsimp only [cA,nA];refine' ϰZ ?_;refine' nn ?_;rotate_left;(focus (split <;> (first | exact κ0 [] [] (.le (.n 0) (.n 5)) [1] rfl | exact ω1 [_] [] (.le (.n 0) ξ0) (.le (.n 0) ξ0) hzm0 rfl)));(focus (split <;> (first | exact κ0 [] [] (.lt (.n 5) (.n 1000000)) [1] rfl | exact κ2 [_,_] [] (.lt ξ0 (.n 1000000)) (.lt ξ0 (.s (.m 2 ξ1) (.n 12))) (.le ξ1 (.n 31)) [1,1,2] hzm1 hb1 rfl)));exact κ0 [] [_] (.le (.n 0) (.a (.n 7) (.a (.n 0) (.r (.c ν0) 1)))) [1] rfl;exact ω1 [] [_] (.lt (.a (.n 7) (.a (.n 0) (.r (.c ν0) 1))) (.n 100)) (.Lt ν0 (.n 3)) hi3 rfl
   all_goals first
    |(refine' ϱK (some (.int (zF ns i))) trivial ?le
      (case le => (rw [hst];(first | rw [ns_tt (by assumption) (by assumption)] | rw [ns_tf (by assumption) (by assumption)] | rw [ns_ft (by assumption) (by assumption)] | rw [ns_ff (by assumption) (by assumption)]);(try simp only [List.map_append,List.map_cons,List.map_nil]);exact ⟨LM 15360 _,by (first | exact .cons P2 (.cons P0 (.cons P0 (.cons P2 (.cons P1 (.nil _))))) | exact .cons P5 (.cons P0 (.cons P0 (.cons P2 (.cons P1 (.nil _))))))⟩)))
    | trace_state
  ·intro o _
   exact h _ _ (by exact Nat.le_of_ble_eq_true rfl)
 ·refine' ϰh ?_;refine' ϱP ?_ (by intro _;rfl);refine' ϰr hG M4 ?_ rfl;refine' ϰe ?_ rfl;refine' WE.ifexp ?_
  refine' ϰU (.eq (.nm G4) .i) ?_;refine' qD (fun hc => (by exfalso;exact β1 [] [] (.eq (.n 2) (.n 1)) hc rfl)) (fun hc => ?_);refine' ϰc ?_;refine' ϰi ?_
  refine' ϰc ?_;refine' ϰs hG M1 (.c (.nm G1) (.c .i .n rfl) rfl) rfl ?_;refine' ϰw ?_
  (focus (refine' draw_ok F.K (by exact δa Fd rfl) ?_ ?_ hn hz P3 ?_;rotate_left;rotate_left;dsimp only [cA,nA]));refine' ϰi ?_;refine' ϰC ?_ ?_;decide
  refine' ϰX ?_;refine' ϰl ?_;refine' WVs.range1 (fun _ => ?_);dsimp only [cA,nA];rotate_left;decide;decide
  refine ForOK.range (ι := Option AV) (1 + drawF ns 6 % 3).toNat (P := fun _ _ => True) (J := fun i o => ⟨[("script",none),("nums",some (.ref l)),("a",some (.int a)),("block",some (.int block)),("check",some (.int 2)),("old",some (.bytes (oldF ns block 2 n0))),("sink",some (.ref fl)),("writer",some (.ref x)),("border",some (.int bd)),("sure",some (.ref su)),("k",none),("size",none),("record",none),("begin",none),("data",none),("found",none),("torn",none),("records",none),("lost",none),("whys",none),("breaks",none),("open_end",none),("reader",none),("given",none),("octets",none),("end",none),("first",none)],[(su,.list ((newF ns block 2 bd ol i).sure.map AV.bytes)),(x,.inst 184 (wF fl block 2 (newF ns block 2 bd ol i).len)),(fl,.list ((newF ns block 2 bd ol i).ch.map AV.bytes)),(l,.list (ns.map AV.int)),(ca,.cell o)]⟩) none P0 (by rw [Int.toNat_of_nonneg (by exact δB rfl)];simp [Builtin.Range.rangeSize];omega) (small_one (by decide) (by decide) (by exact δB rfl) (by exact δC rfl)) trivial ⟨.refl _,.cons P2 (.cons P2 (.cons P2 (.cons P1 (.cons P1 (.nil _)))))⟩ ?_ ?_
  ·intro i o hi _
   have y0 : 0 ≤ zF ns i := ϱd hnn (by exact κ0 [] [_] (.le (.n 0) (.a (.n 7) (.a (.n 0) (.r (.c ν0) 1)))) [1] rfl)
   have hzm0 : 0 ≤ drawF ns (7 + (0 + (i : Int) * 1)) % (2 * block - 12) := Int.emod_nonneg _ (by exact fun hq => φ2 [_] [] (.le (.n 8) ξ0) (.eq (.s (.m 2 ξ0) (.n 12)) (.n 0)) [2,1] hb0 hq rfl)
   have hzm1 : drawF ns (7 + (0 + (i : Int) * 1)) % (2 * block - 12) < 2 * block - 12 := Int.emod_lt_of_pos _ (by exact κ1 [_] [] (.lt (.n 0) (.s (.m 2 ξ0) (.n 12))) (.le (.n 8) ξ0) [1,2] hb0 rfl)
   have hkk : (2 : Int) = 1 ∨ (2 : Int) = 2 := by decide
   have hrl := rcF_len (check := 2) (i := i) hb0 hnn
   obtain ⟨r,hres⟩ := addF_some (check := 2) (len := (newF ns block 2 bd ol i).len) (ch := (newF ns block 2 bd ol i).ch) hb0 hrl
   have hst := nst hres
   have hyl : (rcF ns block 2 i).length ≤ 1000 := by exact κ2 [_] [_] (.Le ν0 (.n 1000)) (.le (.c ν0) (.s (.m 2 ξ0) (.n 13))) (.le ξ0 (.n 31)) [1,1,2] hrl hb1 rfl
   have hry : rcF ns block 2 i = (rangeKs 0 (zF ns i % (2 * block - 12)).toNat).map (fun k => (zF ns i / 7 + 3 * k) % 256) := by unfold rcF szF;rw [if_neg (by decide)]
   obtain ⟨⟨_,_,_,_,hle,_⟩,hsz,hby,hsl,hcl1⟩ := hNI i
   have hi3 : i < 3 := by exact ω3 [_] [_,_] (.Lt ν0 (.n 3)) (.Lt ν0 ν1) (.lt ξ0 (.n 3)) (.eq (.c ν1) (.a (.n 1) ξ0)) hi (Int.emod_lt_of_pos _ (by decide)) (Int.toNat_of_nonneg (δB rfl)) rfl
   rw [hry] at hres hyl hst
   generalize newF ns block 2 bd ol i = s at *
   obtain ⟨ch,len,sure⟩ := s
   dsimp only at hres hcl1 hsz hsl hst hle
   have hl0 : 0 ≤ len := by exact κ1 [_] [_,_] (.le (.n 0) ξ0) (.eq ξ0 (.a (.c ν0) (.c ν1))) [1,-1] hle rfl
   have hlm0 := Int.emod_nonneg len (show block ≠ 0 by exact fun hq => δF hb0 hq rfl)
   have hlm1 := Int.emod_lt_of_pos len (show 0 < block by exact κ2 [_,_] [] (.lt (.n 0) ξ0) (.lt ξ1 (.s (.m 2 ξ0) (.n 12))) (.le (.n 0) ξ1) [2,1,1] hzm1 hzm0 rfl)
   show WTg c _ _ ⟨[("script",none),("nums",some (.ref l)),("a",some (.int a)),("block",some (.int block)),("check",some (.int 2)),("old",some (.bytes (oldF ns block 2 n0))),("sink",some (.ref fl)),("writer",some (.ref x)),("border",some (.int bd)),("sure",some (.ref su)),("k",none),("size",none),("record",none),("begin",none),("data",none),("found",none),("torn",none),("records",none),("lost",none),("whys",none),("breaks",none),("open_end",none),("reader",none),("given",none),("octets",none),("end",none),("first",none)],[(su,.list (sure.map AV.bytes)),(x,.inst 184 (wF fl block 2 len)),(fl,.list (ch.map AV.bytes)),(l,.list (ns.map AV.int)),(ca,.cell o)]⟩ _
   refine' ϱh S10 ?_;dsimp only [cA,nA];refine' ϰh ?_;refine' WS.assignC hcl hkz ?_ rfl
   refine' ϰs hG M1 (.c (.nm G1) (.c (.add .i (.nm G10)) .n rfl) rfl) rfl ?_;refine' ϰw ?_
   (focus (refine' draw_ok F.K (by exact δa Fd rfl) ?_ ?_ hn hz P3 ?_;rotate_left;rotate_left;dsimp only [cA,nA]));refine' cellK P4 ?_;refine' ϰd ?_
   refine' asn ?_ rfl;refine' ϰc ?_;refine' ϱD hcl hkz P0 ?_;refine' ϰc ?_;refine' ϰc ?_;refine' ϰi ?_
   refine' ϰa G3 ?_;refine' ϰS ?_ ?_ ?_;exact Nat.le_of_ble_eq_true rfl;exact ω2 [_] [_] (.Lt ν0 (.n 18446744073709551616)) (.le ξ0 (.n 31)) (.eq (.c ν0) ξ0) hb1 (Int.natAbs_of_nonneg (ω2 [_,_] [] (.le (.n 0) ξ0) (.lt ξ1 ξ0) (.le (.n 0) ξ1) hlm1 hlm0 rfl)) rfl;refine' ϰi ?_;refine' ϰO ?_;refine' ϰC ?_ ?_;exact ω2 [_,_] [] (.lt (.n 0) (.s (.m 2 ξ0) (.n 12))) (.lt ξ1 (.s (.m 2 ξ0) (.n 12))) (.le (.n 0) ξ1) hzm1 hzm0 rfl
   refine' setN S11 ?_;dsimp only [cA,nA];refine' itc (.eq (.nm G4) .i) ?_;refine' qD (fun hc => (by exfalso;exact β1 [] [] (.eq (.n 2) (.n 1)) hc rfl)) (fun hc => ?_);refine' ϰf ?_
   refine' ϰd ?_;refine' asn ?_ rfl;refine' ϰr hG M6 ?_ rfl;refine' ϰe ?_ rfl
   (focus (refine' WE.compZ3 hcl hkz hG M4 G11 P0 ?_ ?_ rfl rfl (by intro _;rfl) (fun r D => ?_);rotate_left;rotate_left;dsimp only [cA,nA]))
   refine' ϰl ?_;refine' bytesM P0 ?_ ?_ ?_;exact modM;(focus (simp only [List.length_map,rangeKs_length];exact κ3 [_,_] [_] (.Le ν0 (.n 16777216)) (.lt ξ0 (.s (.m 2 ξ1) (.n 12))) (.le ξ1 (.n 31)) (.eq (.c ν0) ξ0) [1,1,2,1] hzm1 hb1 (Int.toNat_of_nonneg (δj hzm0 rfl)) rfl));refine' setN S12 ?_
   dsimp only [cA,nA];refine' asn ?_ rfl;refine' ϰq (by assumption) G7 P4 M3 GF3 rfl ?_;refine' setN S13 ?_;dsimp only [cA,nA];refine' itn ?_
   refine' ϰu ?_ rfl;refine' ϰc ?_;refine' ϰa G3 ?_;refine' ϰc ?_;refine' ϰa G13 ?_;refine' ϰa G3 ?_
   refine' ϰC ?_ ?_;exact Int.lt_of_le_of_lt hlm0 hlm1;refine' ϰO ?_;refine' ϰi ?_;refine' ϱV ?_;refine' isB ?_;refine' qD (fun hc => ?_) (fun hc => ?_)
   refine' ϰh ?_;refine' ϱf G13 ?_;refine' ϰc ?_;refine' ϰa G3 ?_;refine' ϰc ?_;refine' ϰa G13 ?_
   refine' ϰa G3 ?_;refine' ϰC ?_ ?_;exact Int.lt_of_le_of_lt hlm0 hlm1;refine' ϰO ?_;refine' ϰL ?_;refine' setN S13 ?_;dsimp only [cA,nA];refine' ϰf ?_
   refine' ϰd ?_;refine' itc (.ge (.nm G13) (.nm G8)) ?_;refine' qD (fun hc => ?_) (fun hc => ?_);refine' ϰh ?_;refine' ϰt ?_ rfl
   refine' ϱw ?_ rfl rfl rfl;refine' ϰa G9 ?_;refine' appK1 P3 ?_;refine' ϰa G12 ?_;refine' appK2 P3 (lmp (by omega)) ?_;dsimp only [cA,nA]
   refine' ϰZ ?_;refine' nn ?_;refine' nx ?_;refine' ϰt ?_ rfl;refine' ϰA (by assumption) G7 P4 M1 (of_decide_eq_true rfl) ?_ rfl rfl
   refine' ϰz (.c (.nm G12) .n rfl) ?_;refine' add_ok F.K (by exact δa Fd rfl) hb0 (by exact δk hb1 rfl) hkk hl0 hyl (by exact δL hcl1 hi3 rfl) (n := 5) (by exact Nat.le_of_ble_eq_true rfl) hres P4 P4 ?_
   dsimp only [cA,nA];refine' ϰZ ?_;refine' nn ?_;rotate_left;refine' ϰf ?_;refine' nx ?_;refine' ϰt ?_ rfl
   refine' ϰA (by assumption) G7 P4 M1 (of_decide_eq_true rfl) ?_ rfl rfl;refine' ϰz (.c (.nm G12) .n rfl) ?_
   refine' add_ok F.K (by exact δa Fd rfl) hb0 (by exact δk hb1 rfl) hkk hl0 hyl (by exact δL hcl1 hi3 rfl) (n := 5) (by exact Nat.le_of_ble_eq_true rfl) hres P4 P4 ?_;dsimp only [cA,nA];refine' ϰZ ?_;refine' nn ?_
   rotate_left;refine' ϰf ?_;refine' ϰd ?_;refine' itc (.ge (.nm G13) (.nm G8)) ?_;refine' qD (fun hc => ?_) (fun hc => ?_)
   refine' ϰh ?_;refine' ϰt ?_ rfl;refine' ϱw ?_ rfl rfl rfl;refine' ϰa G9 ?_;refine' appK1 P3 ?_;refine' ϰa G12 ?_
   refine' appK2 P3 (lmp (by omega)) ?_;dsimp only [cA,nA];refine' ϰZ ?_;refine' nn ?_;refine' nx ?_;refine' ϰt ?_ rfl
   refine' ϰA (by assumption) G7 P4 M1 (of_decide_eq_true rfl) ?_ rfl rfl;refine' ϰz (.c (.nm G12) .n rfl) ?_
   refine' add_ok F.K (by exact δa Fd rfl) hb0 (by exact δk hb1 rfl) hkk hl0 hyl (by exact δL hcl1 hi3 rfl) (n := 5) (by exact Nat.le_of_ble_eq_true rfl) hres P4 P4 ?_;dsimp only [cA,nA];refine' ϰZ ?_;refine' nn ?_
   rotate_left;refine' ϰf ?_;refine' nx ?_;refine' ϰt ?_ rfl;refine' ϰA (by assumption) G7 P4 M1 (of_decide_eq_true rfl) ?_ rfl rfl
   refine' ϰz (.c (.nm G12) .n rfl) ?_;refine' add_ok F.K (by exact δa Fd rfl) hb0 (by exact δk hb1 rfl) hkk hl0 hyl (by exact δL hcl1 hi3 rfl) (n := 5) (by exact Nat.le_of_ble_eq_true rfl) hres P4 P4 ?_
   dsimp only [cA,nA];refine' ϰZ ?_;refine' nn ?_;rotate_left;exact δj hzm0 rfl;exact κ2 [_,_] [] (.lt ξ0 (.n 1000000)) (.lt ξ0 (.s (.m 2 ξ1) (.n 12))) (.le ξ1 (.n 31)) [1,1,2] hzm1 hb1 rfl;exact κ0 [] [_] (.le (.n 0) (.a (.n 7) (.a (.n 0) (.r (.c ν0) 1)))) [1] rfl;exact ω1 [] [_] (.lt (.a (.n 7) (.a (.n 0) (.r (.c ν0) 1))) (.n 100)) (.Lt ν0 (.n 3)) hi3 rfl
   all_goals first
    |(refine' ϱK (some (.int (zF ns i))) trivial ?le
      (case le => (rw [hst];(first | rw [ns_tt (by assumption) (by assumption)] | rw [ns_tf (by assumption) (by assumption)] | rw [ns_ft (by assumption) (by assumption)] | rw [ns_ff (by assumption) (by assumption)]);(try simp only [List.map_append,List.map_cons,List.map_nil]);exact ⟨LM 15360 _,by (first | exact .cons P2 (.cons P0 (.cons P0 (.cons P2 (.cons P1 (.nil _))))) | exact .cons P5 (.cons P0 (.cons P0 (.cons P2 (.cons P1 (.nil _))))))⟩)))
    | trace_state
  ·intro o _
   exact h _ _ (by exact ω2 [_] [_] (.Le ν0 (.n 3)) (.lt ξ0 (.n 3)) (.eq (.c ν0) (.a (.n 1) ξ0)) (Int.emod_lt_of_pos _ (by decide)) (Int.toNat_of_nonneg (δB rfl)) rfl)
set_option maxHeartbeats 4000000
section
variable {c : Cx} {σ : St} {dp un : Nat} {Φ : AV → St → Prop}
end
theorem lawP5 {c : Cx} {ca : Addr} {Φ : AFl → St → Prop} {oc : Value} {od : Option Addr} {osl : Array (Option Value)} {name qual : Str} {params : Arguments} {body : List Stmt} {scope : Scope} {dV kV doc pm cdv ct : Value} {an : Option Addr} {fl x su : Addr} {a block ck : Int} {old : Y} {N : NW} {cv : Option AV} {hpr : List (Addr × AO)} (ho : (mk0.heap_1 c.w.params).lookup 282 = some ⟨oc,od,.func (fnOf name qual params body scope dV kV doc pm an cdv ct),osl⟩) (hK : c.K = mk0.heap_1 c.w.params) (hdp : c.dp < 400) (hcb : c.cb = true) (hun : c.un < cLine) (hG : c.glob = GM) (hcl : c.cl = [(("z" : Str),ca)]) (hkz : c.env.kindOf "z" = some .cell) (hkn : c.env.kindOf "nums" = some .local) (hb0 : 8 ≤ block) (hb1 : block ≤ 31) (hk : ck = 1 ∨ ck = 2) (LF : LawFacts old N block ck) (h : ∀ (g rd rl ra : Addr),WSs c (body.drop 18) ⟨[("script",none),("nums",none),("a",some (.int a)),("block",some (.int block)),("check",some (.int ck)),("old",some (.bytes old)),("sink",none),("writer",none),("border",none),("sure",some (.ref su)),("k",none),("size",none),("record",none),("begin",none),("data",none),("found",none),("torn",some (.bool (piecesF (old ++ N.ch.flatten) block ck).2)),("records",some (.ref ra)),("lost",some (.int (storyF (piecesF (old ++ N.ch.flatten) block ck).1).lost)),("whys",some (.int (storyF (piecesF (old ++ N.ch.flatten) block ck).1).whys)),("breaks",some (.int (storyF (piecesF (old ++ N.ch.flatten) block ck).1).breaks)),("open_end",some (.bool (storyF (piecesF (old ++ N.ch.flatten) block ck).1).oe)),("reader",some (.ref rd)),("given",some (.ref g)),("octets",none),("end",none),("first",none)],[(g,.list []),(rd,.inst 233 (rsF (old ++ N.ch.flatten) block ck rl RS0)),(rl,.list []),(ra,.list ((storyF (piecesF (old ++ N.ch.flatten) block ck).1).recs.map recA)),(su,.list (N.sure.map AV.bytes))]⟩ Φ) : WSs c (body.drop 12) ⟨[("script",none),("nums",none),("a",some (.int a)),("block",some (.int block)),("check",some (.int ck)),("old",some (.bytes old)),("sink",some (.ref fl)),("writer",some (.ref x)),("border",none),("sure",some (.ref su)),("k",none),("size",none),("record",none),("begin",none),("data",none),("found",none),("torn",none),("records",none),("lost",none),("whys",none),("breaks",none),("open_end",none),("reader",none),("given",none),("octets",none),("end",none),("first",none)],[(su,.list (N.sure.map AV.bytes)),(x,.inst 184 (wF fl block ck N.len)),(fl,.list (N.ch.map AV.bytes))]⟩ Φ := by
 refine ϰaJ 12 6 ho (by k_is) ?_
 simp only [List.drop_succ_cons,List.drop_zero,List.take_succ_cons,List.take_zero,List.cons_append,List.nil_append]
 have F : Fix mk0.heap_1 c 400 := ⟨hK,by exact δd hdp rfl⟩
 have Fd := F.dp
 have hc184 := ϰan F.K
 have hc233 := ϱt F.K
 have hlen := LF.len
 have hel : (piecesF (old ++ N.ch.flatten) block ck).1.length ≤ 3000 := Nat.le_trans LF.el (by decide)
 have hld := LF.ld
 have hll := List.length_append (as := old) (bs := N.ch.flatten)
 have hld2 : (old ++ N.ch.flatten).length ≤ 16777216 := by exact δc hld rfl
 have hld3 : (old ++ N.ch.flatten).length ≤ 1000000 := by exact δc hld rfl
 refine' asn ?_ rfl;refine' ϰc ?_;refine' ϰa G5 ?_;refine' WE.joinC ?_ rfl rfl rfl;refine' ϰa G6 ?_;refine' joinK P2 ?_ ?_;omega
 refine' ϰN ?_ ?_;omega;refine' setN S14 ?_;dsimp only [cA,nA];refine' itn ?_;refine' ϰu ?_ rfl
 refine' ϰq (by assumption) G7 P1 M3 GF3 rfl ?_;refine' ϰs hG M0 (.c (.nm G14) .n rfl) rfl ?_;refine' ϰv ?_ ?_;omega
 refine' ϱj ?_;refine' isB ?_;refine' qD (fun hc => (by exfalso;omega)) (fun hc => ?_);refine' ϰf ?_;refine' nx ?_
 refine' ϰaV (by (repeat (first | exact NamesAre.nil | apply NamesAre.cons));done) ?_ rfl rfl
 refine' ϰs hG M7 (.c (.nm G14) (.c (.nm G3) (.c (.nm G4) .n rfl) rfl) rfl) rfl ?_;refine' ϰw ?_
 refine' pieces_ok F.K (by exact δa Fd rfl) hb0 hb1 hk LF.ld (fun lp => ?_);dsimp only [cA,nA];refine' tupS ((.cons S15 (.cons S16 (.nil _)))) ?_;refine' nx ?_
 refine' ϰaV (by (repeat (first | exact NamesAre.nil | apply NamesAre.cons));done) ?_ rfl rfl;refine' ϰs hG M8 (.c (.nm G15) .n rfl) rfl ?_
 refine' ϰw ?_;refine' story_ok F.K (by exact δa Fd rfl) LF.ev hel P0 (fun lr => ?_);dsimp only [cA,nA]
 refine' tupS ((.cons S17 (.cons S18 (.cons S19 (.cons S20 (.cons S21 (.nil _))))))) ?_;refine' ϰd ?_;refine' asn ?_ rfl
 refine' ϰr hG M9 ?_ rfl;refine' ϰe ?_ rfl;refine' ϰs hG M10 (.c (.nm G14) .n rfl) rfl ?_;refine' WVs.ba1 hcb hld2 (fun ba => ?_)
 dsimp only [cA,nA];refine' ϰz (.c (.nm G3) (.c (.nm G4) .n rfl) rfl) ?_;refine' mkRA_ok F.K (by exact δa Fd rfl) hb0 (by exact δk hb1 rfl) hk hld3 P0 (fun xr lr => ?_)
 dsimp only [cA,nA];refine' setN S22 ?_;refine' asn ?_ rfl;refine' ϰF ?_;refine' ϰl ?_;refine' ϱr (zl rfl) (fun _ => ?_)
 dsimp only [cA,nA];refine' setN S23 ?_;rotate_left
 all_goals first
  |(refine' W.pre ?le (h _ _ _ _);(case le => exact ⟨by exact LM 49344 _,by exact .cons (by exact P0) (.cons (by exact P0) (.cons (by exact P0) (.cons (by exact P0) (.cons (by exact P1) (.nil _)))))⟩))
  | trace_state
set_option maxHeartbeats 4000000
section
variable {c : Cx} {σ : St} {dp un : Nat} {Φ : AV → St → Prop}
end
theorem lawP6 {c : Cx} {ca : Addr} {Φ : AFl → St → Prop} {oc : Value} {od : Option Addr} {osl : Array (Option Value)} {name qual : Str} {params : Arguments} {body : List Stmt} {scope : Scope} {dV kV doc pm cdv ct : Value} {an : Option Addr} {g rd rl ra su : Addr} {a block ck lo wh br : Int} {tn oe : Bool} {old D : Y} {su0 : List Y} {L : List (Y × Int)} {R' : RS} (ho : (mk0.heap_1 c.w.params).lookup 282 = some ⟨oc,od,.func (fnOf name qual params body scope dV kV doc pm an cdv ct),osl⟩) (hK : c.K = mk0.heap_1 c.w.params) (hdp : c.dp < 400) (hcb : c.cb = true) (hun : c.un < cLine) (hG : c.glob = GM) (hcl : c.cl = [(("z" : Str),ca)]) (hkz : c.env.kindOf "z" = some .cell) (hkn : c.env.kindOf "nums" = some .local) (hb0 : 8 ≤ block) (hb1 : block ≤ 31) (hk : ck = 1 ∨ ck = 2) (hbd : Byt D) (hL : L.length ≤ 1100) (hR : Reads D block ck RS0 L R') (h : ∀ R,Reads D block ck R [] R' → WSs c (body.drop 19) ⟨[("script",none),("nums",none),("a",some (.int a)),("block",some (.int block)),("check",some (.int ck)),("old",some (.bytes old)),("sink",none),("writer",none),("border",none),("sure",some (.ref su)),("k",none),("size",none),("record",none),("begin",none),("data",none),("found",none),("torn",some (.bool tn)),("records",some (.ref ra)),("lost",some (.int lo)),("whys",some (.int wh)),("breaks",some (.int br)),("open_end",some (.bool oe)),("reader",some (.ref rd)),("given",some (.ref g)),("octets",none),("end",none),("first",none)],[(g,.list ((L.map (·.1)).map AV.bytes)),(rd,.inst 233 (rsF D block ck rl R)),(rl,.list R.reasons),(ra,.list (L.map recA)),(su,.list (su0.map AV.bytes))]⟩ Φ) : WSs c (body.drop 18) ⟨[("script",none),("nums",none),("a",some (.int a)),("block",some (.int block)),("check",some (.int ck)),("old",some (.bytes old)),("sink",none),("writer",none),("border",none),("sure",some (.ref su)),("k",none),("size",none),("record",none),("begin",none),("data",none),("found",none),("torn",some (.bool tn)),("records",some (.ref ra)),("lost",some (.int lo)),("whys",some (.int wh)),("breaks",some (.int br)),("open_end",some (.bool oe)),("reader",some (.ref rd)),("given",some (.ref g)),("octets",none),("end",none),("first",none)],[(g,.list []),(rd,.inst 233 (rsF D block ck rl RS0)),(rl,.list []),(ra,.list (L.map recA)),(su,.list (su0.map AV.bytes))]⟩ Φ := by
 refine ϰaJ 18 1 ho (by k_is) ?_
 simp only [List.drop_succ_cons,List.drop_zero,List.take_succ_cons,List.take_zero,List.cons_append,List.nil_append]
 have F : Fix mk0.heap_1 c 400 := ⟨hK,by exact δd hdp rfl⟩
 have Fd := F.dp
 have hc184 := ϰan F.K
 have hc233 := ϱt F.K
 refine' ϰh ?_;refine' ϱP ?_ (by intro _;rfl);refine' ϰa G17 ?_;rotate_left
 refine ForOK.list (ι := RS) (as := L.map recA) (P := fun i R => Reads D block ck R (L.drop i) R') (J := fun i R => ⟨[("script",none),("nums",none),("a",some (.int a)),("block",some (.int block)),("check",some (.int ck)),("old",some (.bytes old)),("sink",none),("writer",none),("border",none),("sure",some (.ref su)),("k",none),("size",none),("record",none),("begin",none),("data",none),("found",none),("torn",some (.bool tn)),("records",some (.ref ra)),("lost",some (.int lo)),("whys",some (.int wh)),("breaks",some (.int br)),("open_end",some (.bool oe)),("reader",some (.ref rd)),("given",some (.ref g)),("octets",none),("end",none),("first",none)],[(g,.list (((L.take i).map (·.1)).map AV.bytes)),(rd,.inst 233 (rsF D block ck rl R)),(rl,.list R.reasons),(ra,.list (L.map recA)),(su,.list (su0.map AV.bytes))]⟩) RS0 P3 (by simpa using hR) ⟨.refl _,.cons P0 (.refl _)⟩ (fun i R _ => ⟨_,P3⟩) ?_ ?_
 ·intro i R hi hP
  have hi' : i < L.length := by simpa using hi
  obtain ⟨n1,R1,hn1,hz1,hi1,hr1,hg1,hP1⟩ := hP.at hi'
  rw [List.getElem_map]
  have htl : (((L.take i).map (·.1)).map AV.bytes).length ≤ 1100 := by rw [List.length_map,List.length_map,List.length_take];omega
  have htk := take_recs hi'
  generalize L[i] = e at *
  obtain ⟨ye,ge⟩ := e
  dsimp only at hr1 hg1 htk
  show WTg c _ _ ⟨[("script",none),("nums",none),("a",some (.int a)),("block",some (.int block)),("check",some (.int ck)),("old",some (.bytes old)),("sink",none),("writer",none),("border",none),("sure",some (.ref su)),("k",none),("size",none),("record",none),("begin",none),("data",none),("found",none),("torn",some (.bool tn)),("records",some (.ref ra)),("lost",some (.int lo)),("whys",some (.int wh)),("breaks",some (.int br)),("open_end",some (.bool oe)),("reader",some (.ref rd)),("given",some (.ref g)),("octets",none),("end",none),("first",none)],[(g,.list (((L.take i).map (·.1)).map AV.bytes)),(rd,.inst 233 (rsF D block ck rl R)),(rl,.list R.reasons),(ra,.list (L.map recA)),(su,.list (su0.map AV.bytes))]⟩ _
  refine' WTg.tuple (by (repeat (first | exact NamesAre.nil | apply NamesAre.cons));done) ((.cons S24 (.cons S25 (.nil _)))) ?_;dsimp only [cA,nA]
  refine' asn ?_ rfl;refine' ϰA (by assumption) G22 P1 M3 (of_decide_eq_true rfl) ?_ rfl rfl;refine' ϰl ?_
  refine' read_some F.K (by exact δa Fd rfl) hcb hbd hi1 hk hn1 hz1 hr1 P1 P1 ?_;dsimp only [cA,nA];refine' setN S12 ?_;refine' itn ?_;refine' ϰY ?_
  refine' ϰu ?_ rfl;refine' ϰa G12 ?_;refine' ϰa G24 ?_;refine' WCmp.neY ?_;refine' isB ?_;refine' qD' (fun hc => ?_) (fun hc => ?_)
  refine' ϰY ?_;refine' WT.not ?_;refine' ϰaz ?_ rfl;refine' ϰs hG M11 (.c (.nm G12) (.c (.gl hG M6) .n rfl) rfl) rfl ?_
  refine' WVs.isBytes ?_;refine' ϱm ?_;refine' qN' (fun hc => ?_) (fun hc => (by exfalso;revert hc;decide));refine' ϰY ?_
  refine' ϰu ?_ rfl;refine' ϰq (by assumption) G22 P0 M9 GF9 rfl ?_;refine' ϰa G25 ?_;refine' ϱj ?_;refine' isB ?_
  refine' qD' (fun hc => ?_) (fun hc => (by exfalso;omega));refine' ϰE ?_;refine' fT ?_;refine' ϰf ?_;refine' nx ?_
  refine' ϰt ?_ rfl;refine' ϱw ?_ rfl rfl rfl;refine' ϰa G23 ?_;refine' appK1 P2 ?_;refine' ϰa G12 ?_
  refine' appK2 P2 (δc htl rfl) ?_;dsimp only [cA,nA];refine' ϰZ ?_;refine' nn ?_;rotate_left
  (focus (exfalso;first | exact hc rfl | omega | (simp at hc;done)))
  all_goals first
   |(refine' ϱK R1 hP1 ?le
     (case le => (rw [htk];exact ⟨LM 50335744 _,.refl _⟩)))
   | trace_state
 ·intro R hP
  rw [List.length_map] at hP ⊢
  rw [List.drop_length] at hP
  rw [List.take_length]
  exact h R hP
set_option maxHeartbeats 4000000
section
variable {c : Cx} {σ : St} {dp un : Nat} {Φ : AV → St → Prop}
end
theorem lawP7 {c : Cx} {ca : Addr} {Φ : AFl → St → Prop} {oc : Value} {od : Option Addr} {osl : Array (Option Value)} {name qual : Str} {params : Arguments} {body : List Stmt} {scope : Scope} {dV kV doc pm cdv ct : Value} {an : Option Addr} {g rd rl ra su : Addr} {a block ck lo wh br : Int} {tn oe : Bool} {old D : Y} {su0 : List Y} {L : List (Y × Int)} {R R' : RS} (ho : (mk0.heap_1 c.w.params).lookup 282 = some ⟨oc,od,.func (fnOf name qual params body scope dV kV doc pm an cdv ct),osl⟩) (hK : c.K = mk0.heap_1 c.w.params) (hdp : c.dp < 400) (hcb : c.cb = true) (hun : c.un < cLine) (hG : c.glob = GM) (hcl : c.cl = [(("z" : Str),ca)]) (hkz : c.env.kindOf "z" = some .cell) (hkn : c.env.kindOf "nums" = some .local) (hb0 : 8 ≤ block) (hb1 : block ≤ 31) (hk : ck = 1 ∨ ck = 2) (hbd : Byt D) (hbo : Byt old) (hlo : old.length ≤ 400) (hL : L.length ≤ 1100) (hP : Reads D block ck R [] R') (hi2 : RInv D block R') (hr2 : readF D block ck 1 false [] R' = some (none,R')) (hz3 : R'.reasons.length ≤ 3000) (e1 : R'.skipped = lo) (e2 : (R'.reasons.length : Int) = wh) (e3 : R'.breaks = br) (e4 : R'.torn = (tn || oe)) (hem : old.length = 0 → br = 0 ∧ wh = 0 ∧ tn = false ∧ oe = false) {L0 : List (Y × Int)} {R0 : RS} (hro : Reads old block ck RS0 L0 R0) (hL0 : L0.length ≤ 1100) (htake : (L.map (·.1)).take L0.length = L0.map (·.1)) (hsl : su0.length ≤ L.length) (hdrop : (L.map (·.1)).drop (L.length - su0.length) = su0) (h : WSs c (body.drop 25) ⟨[("script",none),("nums",none),("a",some (.int a)),("block",some (.int block)),("check",some (.int ck)),("old",none),("sink",none),("writer",none),("border",none),("sure",none),("k",none),("size",none),("record",none),("begin",none),("data",none),("found",none),("torn",none),("records",none),("lost",none),("whys",none),("breaks",none),("open_end",none),("reader",none),("given",none),("octets",none),("end",none),("first",none)],[]⟩ Φ) : WSs c (body.drop 19) ⟨[("script",none),("nums",none),("a",some (.int a)),("block",some (.int block)),("check",some (.int ck)),("old",some (.bytes old)),("sink",none),("writer",none),("border",none),("sure",some (.ref su)),("k",none),("size",none),("record",none),("begin",none),("data",none),("found",none),("torn",some (.bool tn)),("records",some (.ref ra)),("lost",some (.int lo)),("whys",some (.int wh)),("breaks",some (.int br)),("open_end",some (.bool oe)),("reader",some (.ref rd)),("given",some (.ref g)),("octets",none),("end",none),("first",none)],[(g,.list ((L.map (·.1)).map AV.bytes)),(rd,.inst 233 (rsF D block ck rl R)),(rl,.list R.reasons),(su,.list (su0.map AV.bytes))]⟩ Φ := by
 refine ϰaJ 19 6 ho (by k_is) ?_
 simp only [List.drop_succ_cons,List.drop_zero,List.take_succ_cons,List.take_zero,List.cons_append,List.nil_append]
 have F : Fix mk0.heap_1 c 400 := ⟨hK,by exact δd hdp rfl⟩
 have Fd := F.dp
 have hc184 := ϰan F.K
 have hc233 := ϱt F.K
 obtain ⟨n1,hn1,hz1,hi1,hr1⟩ := hP.end_
 have hz2 : R'.reasons.length ≤ 500000 := by exact δc hz3 rfl
 have hcut1 : ∀ k : Int,k = ((L0.map (·.1)).length : Int) → cut (L.map (·.1)) none (some k) = L0.map (·.1) := by
  intro k hk;subst hk;rw [ϰah _ (by exact δz _)];rw [List.length_map];exact htake
 have hcut2 : ∀ k : Int,k = ((L.map (·.1)).length : Int) - (su0.length : Int) → cut (L.map (·.1)) (some k) none = su0 := by
  intro k hk;subst hk;rw [List.length_map,ϱs _ (by exact ω1 [] [_,_] (.le (.n 0) (.s (.c ν0) (.c ν1))) (.Le ν1 ν0) hsl rfl),show ((L.length : Int) - (su0.length : Int)).toNat = L.length - su0.length by exact η3 [] [_,_,_,_] (.Eq ν0 ν1) (.eq (.c ν0) (.s (.c ν2) (.c ν3))) (.Eq (.a ν1 ν3) ν2) (.le (.s (.c ν2) (.c ν3)) (.c ν0)) [1,0,1,1] [1,1,-1,0] (Int.toNat_of_nonneg (ω1 [] [_,_] (.le (.n 0) (.s (.c ν0) (.c ν1))) (.Le ν1 ν0) hsl rfl)) (Nat.sub_add_cancel (ω1 [] [_,_] (.Le ν0 ν1) (.Le ν0 ν1) hsl rfl)) (Int.self_le_toNat _) rfl];exact hdrop
 have hlm : (L.map (·.1)).length ≤ 1100 := by rw [List.length_map];exact hL
 have hlm0 : (L0.map (·.1)).length ≤ 1100 := by rw [List.length_map];exact hL0
 subst e1 e3
 have hemB : old.length ≠ 0 ∨ R'.breaks = 0 := by by_cases q : old.length = 0;exact .inr (hem q).1;exact .inl q
 have hemW : old.length ≠ 0 ∨ (R'.reasons.length : Int) = 0 := by by_cases q : old.length = 0;exact .inr (e2.trans (hem q).2.1);exact .inl q
 have hemT : old.length = 0 → R'.torn = false := fun q => by rw [e4,(hem q).2.2.1,(hem q).2.2.2];rfl
 clear hem
 refine' itn ?_;refine' ϰY ?_;refine' ϰu ?_ rfl;refine' ϰA (by assumption) G22 P1 M3 (of_decide_eq_true rfl) ?_ rfl rfl
 refine' ϰl ?_;refine' read_none F.K (by exact δa Fd rfl) hcb hbd hi1 hk hn1 hz1 hr1 P1 P1 ?_;dsimp only [cA,nA];refine' ϰaA ?_;refine' ϰaW ?_
 refine' isB ?_;refine' qN' (fun hc => ?_) (fun hc => (by exfalso;revert hc;decide));refine' ϰY ?_;refine' ϰu ?_ rfl
 refine' ϰA (by assumption) G22 P0 M3 (of_decide_eq_true rfl) ?_ rfl rfl;refine' ϰl ?_
 refine' read_none F.K (by exact δa Fd rfl) hcb hbd hi2 hk (n := 1) (by decide) hz2 hr2 P0 P0 ?_;dsimp only [cA,nA];refine' ϰaA ?_;refine' ϰaW ?_
 refine' isB ?_;refine' qN' (fun hc => ?_) (fun hc => (by exfalso;revert hc;decide));refine' ϰE ?_;refine' fT ?_;refine' ϰf ?_
 refine' ϰd ?_;refine' itn ?_;refine' ϰY ?_;refine' ϰu ?_ rfl;refine' ϰq (by assumption) G22 P0 M6 GF6 rfl ?_
 refine' ϰa G18 ?_;refine' ϱj ?_;refine' isB ?_;refine' qD' (fun hc => ?_) (fun hc => (by exfalso;omega));refine' ϰY ?_
 refine' ϰu ?_ rfl;refine' ϰr hG M0 ?_ rfl;refine' ϰe ?_ rfl;refine' ϰq (by assumption) G22 P0 M7 GF7 rfl ?_;refine' ϰl ?_
 refine' WVs.lenL P1 ?_ ?_;exact δc hz2 rfl;refine' ϰa G19 ?_;refine' ϱj ?_;refine' isB ?_
 refine' qD' (fun hc => ?_) (fun hc => (by exfalso;omega));refine' ϰY ?_;refine' ϰu ?_ rfl
 refine' ϰq (by assumption) G22 P0 M10 GF10 rfl ?_;refine' ϰa G20 ?_;refine' ϱj ?_;refine' isB ?_
 refine' qD' (fun hc => ?_) (fun hc => (by exfalso;omega));refine' ϰE ?_;refine' fT ?_;refine' ϰf ?_;refine' ϰd ?_
 refine' itn ?_;refine' ϰu ?_ rfl;refine' ϰq (by assumption) G22 P0 M8 GF8 rfl ?_;refine' WE.or ?_;refine' ϰa G16 ?_
 refine' ϱm ?_;refine' ϰaZ (fun hc => ?_) (fun hc => ?_);refine' WCmp.neB ?_;refine' isB ?_;refine' qD (fun hc => ?_) (fun hc => ?_)
 refine' ϰh ?_;refine' ϰP ?_;refine' ϱi ?_;refine' ϰm ?_;refine' ϰm ?_;rotate_left;refine' ϰf ?_
 refine' ϰd ?_;refine' itn ?_;refine' ϱb ?_;refine' ϰu ?_ rfl;refine' ϰs hG M0 (.c (.nm G5) .n rfl) rfl ?_;refine' ϰv ?_ ?_
 exact δc hlo rfl;refine' ϰi ?_;refine' ϰaj ?_;refine' isB ?_;refine' qD (fun hc => ?_) (fun hc => ?_);refine' ϱb ?_;refine' ϰY ?_
 refine' ϰu ?_ rfl;refine' ϰq (by assumption) G22 P0 M10 GF10 rfl ?_;refine' ϰi ?_;refine' ϱj ?_;refine' isB ?_
 refine' qD' (fun hc => ?_) (fun hc => (by exfalso;omega));refine' ϰY ?_;refine' ϰu ?_ rfl;refine' ϰr hG M0 ?_ rfl
 refine' ϰe ?_ rfl;refine' ϰq (by assumption) G22 P0 M7 GF7 rfl ?_;refine' ϰl ?_;refine' WVs.lenL P1 ?_ ?_;exact δc hz2 rfl;refine' ϰi ?_
 refine' ϱj ?_;refine' isB ?_;refine' qD' (fun hc => ?_) (fun hc => (by exfalso;omega));refine' ϰY ?_;refine' ϰaz ?_ rfl
 refine' ϰq (by assumption) G22 P0 M8 GF8 rfl ?_;refine' ϱm ?_;refine' splitK' (fun hc => ?_) (fun hc => ?_);refine' ϰE ?_
 refine' fT ?_;refine' fT ?_;refine' ϰf ?_;refine' ϰd ?_;refine' asn ?_ rfl;refine' ϰI ?_
 refine' ϰs hG M12 (.c (.nm G5) (.c (.nm G3) (.c (.nm G4) .n rfl) rfl) rfl) rfl ?_;refine' ϰw ?_
 refine' ϰaQ F.K (by exact δa Fd rfl) hcb hbo hb0 (by exact δk hb1 rfl) hk (by exact δc hlo rfl) (by exact δc hL0 rfl) hro (fun lf xf => ?_);dsimp only [cA,nA];refine' ϰi ?_
 refine' ϱU (fun _ _ => rfl) ?_ ?_ rfl ?_;decide;decide;refine' setN S26 ?_;dsimp only [cA,nA];refine' itn ?_;refine' ϰY ?_;refine' ϰu ?_ rfl
 refine' ϰW (f := AV.bytes) G23 ?_;refine' ϰK ?_;refine' ϰy ?_;refine' ϰs hG M0 (.c (.nm G26) .n rfl) rfl ?_
 refine' ϰT P0 ?_ ?_;omega;refine' isI ?_;refine' ϰad P3 (by omega) ?_;intro D4;dsimp only [cA,nA]
 refine' ϰa G26 ?_;refine' ϰai rfl rfl P0 P1 hun ?_;refine' isB ?_;refine' qD' (fun hc => ?_) (fun hc => ?_);refine' ϰY ?_
 refine' ϰu ?_ rfl;refine' ϰW (f := AV.bytes) G23 ?_;refine' ϰy ?_;refine' ϰc ?_
 refine' ϰs hG M0 (.c (.nm G23) .n rfl) rfl ?_;refine' ϰT P4 ?_ ?_;omega;refine' ϰs hG M0 (.c (.nm G9) .n rfl) rfl ?_
 refine' ϰT P5 ?_ ?_;omega;refine' ϰO ?_;refine' isI ?_;refine' ϰK ?_;refine' ϰad P4 (by omega) ?_
 intro D4;dsimp only [cA,nA];refine' ϰa G9 ?_;refine' ϰai rfl rfl P0 P6 hun ?_;refine' isB ?_;refine' qD' (fun hc => ?_) (fun hc => ?_)
 refine' ϰE ?_;refine' fT ?_;refine' ϰf ?_;refine' ϰd ?_;rotate_left
 (focus (exfalso;first | exact hc rfl | exact hc (hcut1 _ rfl) | exact hc (hcut2 _ rfl) | omega))
 (focus (exfalso;first | exact hc rfl | exact hc (hcut1 _ rfl) | exact hc (hcut2 _ rfl) | omega));refine' tT ?_;refine' ϱn ?_;refine' tT ?_
 refine' ϰh ?_;refine' ϰP ?_;refine' ϱi ?_;refine' ϰm ?_;refine' ϰm ?_;rotate_left;refine' fT ?_;refine' ϰf ?_
 refine' ϰd ?_;refine' asn ?_ rfl;refine' ϰI ?_;refine' ϰs hG M12 (.c (.nm G5) (.c (.nm G3) (.c (.nm G4) .n rfl) rfl) rfl) rfl ?_
 refine' ϰw ?_;refine' ϰaQ F.K (by exact δa Fd rfl) hcb hbo hb0 (by exact δk hb1 rfl) hk (by exact δc hlo rfl) (by exact δc hL0 rfl) hro (fun lf xf => ?_);dsimp only [cA,nA]
 refine' ϰi ?_;refine' ϱU (fun _ _ => rfl) ?_ ?_ rfl ?_;decide;decide;refine' setN S26 ?_;dsimp only [cA,nA];refine' itn ?_;refine' ϰY ?_
 refine' ϰu ?_ rfl;refine' ϰW (f := AV.bytes) G23 ?_;refine' ϰK ?_;refine' ϰy ?_
 refine' ϰs hG M0 (.c (.nm G26) .n rfl) rfl ?_;refine' ϰT P0 ?_ ?_;omega;refine' isI ?_
 refine' ϰad P3 (by omega) ?_;intro D4;dsimp only [cA,nA];refine' ϰa G26 ?_;refine' ϰai rfl rfl P0 P1 hun ?_
 refine' isB ?_;refine' qD' (fun hc => ?_) (fun hc => ?_);refine' ϰY ?_;refine' ϰu ?_ rfl;refine' ϰW (f := AV.bytes) G23 ?_
 refine' ϰy ?_;refine' ϰc ?_;refine' ϰs hG M0 (.c (.nm G23) .n rfl) rfl ?_;refine' ϰT P4 ?_ ?_;omega
 refine' ϰs hG M0 (.c (.nm G9) .n rfl) rfl ?_;refine' ϰT P5 ?_ ?_;omega;refine' ϰO ?_;refine' isI ?_;refine' ϰK ?_
 refine' ϰad P4 (by omega) ?_;intro D4;dsimp only [cA,nA];refine' ϰa G9 ?_;refine' ϰai rfl rfl P0 P6 hun ?_
 refine' isB ?_;refine' qD' (fun hc => ?_) (fun hc => ?_);refine' ϰE ?_;refine' fT ?_;refine' ϰf ?_;refine' ϰd ?_;rotate_left
 (focus (exfalso;first | exact hc rfl | exact hc (hcut1 _ rfl) | exact hc (hcut2 _ rfl) | omega))
 (focus (exfalso;first | exact hc rfl | exact hc (hcut1 _ rfl) | exact hc (hcut2 _ rfl) | omega));refine' WE.or_one ?_;refine' ϰa G21 ?_
 refine' WCmp.neB ?_;refine' isB ?_;refine' qD (fun hc => ?_) (fun hc => ?_);refine' ϰh ?_;refine' ϰP ?_;refine' ϱi ?_
 refine' ϰm ?_;refine' ϰm ?_;rotate_left;refine' ϰf ?_;refine' ϰd ?_;refine' itn ?_;refine' ϱb ?_
 refine' ϰu ?_ rfl;refine' ϰs hG M0 (.c (.nm G5) .n rfl) rfl ?_;refine' ϰv ?_ ?_;exact δc hlo rfl;refine' ϰi ?_;refine' ϰaj ?_
 refine' isB ?_;refine' qD (fun hc => ?_) (fun hc => ?_);refine' ϱb ?_;refine' ϰY ?_;refine' ϰu ?_ rfl
 refine' ϰq (by assumption) G22 P0 M10 GF10 rfl ?_;refine' ϰi ?_;refine' ϱj ?_;refine' isB ?_
 refine' qD' (fun hc => ?_) (fun hc => (by exfalso;omega));refine' ϰY ?_;refine' ϰu ?_ rfl;refine' ϰr hG M0 ?_ rfl
 refine' ϰe ?_ rfl;refine' ϰq (by assumption) G22 P0 M7 GF7 rfl ?_;refine' ϰl ?_;refine' WVs.lenL P1 ?_ ?_;exact δc hz2 rfl;refine' ϰi ?_
 refine' ϱj ?_;refine' isB ?_;refine' qD' (fun hc => ?_) (fun hc => (by exfalso;omega));refine' ϰY ?_;refine' ϰaz ?_ rfl
 refine' ϰq (by assumption) G22 P0 M8 GF8 rfl ?_;refine' ϱm ?_;refine' splitK' (fun hc => ?_) (fun hc => ?_);refine' ϰE ?_
 refine' fT ?_;refine' fT ?_;refine' ϰf ?_;refine' ϰd ?_;refine' asn ?_ rfl;refine' ϰI ?_
 refine' ϰs hG M12 (.c (.nm G5) (.c (.nm G3) (.c (.nm G4) .n rfl) rfl) rfl) rfl ?_;refine' ϰw ?_
 refine' ϰaQ F.K (by exact δa Fd rfl) hcb hbo hb0 (by exact δk hb1 rfl) hk (by exact δc hlo rfl) (by exact δc hL0 rfl) hro (fun lf xf => ?_);dsimp only [cA,nA];refine' ϰi ?_
 refine' ϱU (fun _ _ => rfl) ?_ ?_ rfl ?_;decide;decide;refine' setN S26 ?_;dsimp only [cA,nA];refine' itn ?_;refine' ϰY ?_;refine' ϰu ?_ rfl
 refine' ϰW (f := AV.bytes) G23 ?_;refine' ϰK ?_;refine' ϰy ?_;refine' ϰs hG M0 (.c (.nm G26) .n rfl) rfl ?_
 refine' ϰT P0 ?_ ?_;omega;refine' isI ?_;refine' ϰad P3 (by omega) ?_;intro D4;dsimp only [cA,nA]
 refine' ϰa G26 ?_;refine' ϰai rfl rfl P0 P1 hun ?_;refine' isB ?_;refine' qD' (fun hc => ?_) (fun hc => ?_);refine' ϰY ?_
 refine' ϰu ?_ rfl;refine' ϰW (f := AV.bytes) G23 ?_;refine' ϰy ?_;refine' ϰc ?_
 refine' ϰs hG M0 (.c (.nm G23) .n rfl) rfl ?_;refine' ϰT P4 ?_ ?_;omega;refine' ϰs hG M0 (.c (.nm G9) .n rfl) rfl ?_
 refine' ϰT P5 ?_ ?_;omega;refine' ϰO ?_;refine' isI ?_;refine' ϰK ?_;refine' ϰad P4 (by omega) ?_
 intro D4;dsimp only [cA,nA];refine' ϰa G9 ?_;refine' ϰai rfl rfl P0 P6 hun ?_;refine' isB ?_;refine' qD' (fun hc => ?_) (fun hc => ?_)
 refine' ϰE ?_;refine' fT ?_;refine' ϰf ?_;refine' ϰd ?_;rotate_left
 (focus (exfalso;first | exact hc rfl | exact hc (hcut1 _ rfl) | exact hc (hcut2 _ rfl) | omega))
 (focus (exfalso;first | exact hc rfl | exact hc (hcut1 _ rfl) | exact hc (hcut2 _ rfl) | omega));refine' tT ?_;refine' ϱn ?_;refine' tT ?_
 refine' ϰh ?_;refine' ϰP ?_;refine' ϱi ?_;refine' ϰm ?_;refine' ϰm ?_;rotate_left;refine' fT ?_;refine' ϰf ?_
 refine' ϰd ?_;refine' asn ?_ rfl;refine' ϰI ?_;refine' ϰs hG M12 (.c (.nm G5) (.c (.nm G3) (.c (.nm G4) .n rfl) rfl) rfl) rfl ?_
 refine' ϰw ?_;refine' ϰaQ F.K (by exact δa Fd rfl) hcb hbo hb0 (by exact δk hb1 rfl) hk (by exact δc hlo rfl) (by exact δc hL0 rfl) hro (fun lf xf => ?_);dsimp only [cA,nA]
 refine' ϰi ?_;refine' ϱU (fun _ _ => rfl) ?_ ?_ rfl ?_;decide;decide;refine' setN S26 ?_;dsimp only [cA,nA];refine' itn ?_;refine' ϰY ?_
 refine' ϰu ?_ rfl;refine' ϰW (f := AV.bytes) G23 ?_;refine' ϰK ?_;refine' ϰy ?_
 refine' ϰs hG M0 (.c (.nm G26) .n rfl) rfl ?_;refine' ϰT P0 ?_ ?_;omega;refine' isI ?_
 refine' ϰad P3 (by omega) ?_;intro D4;dsimp only [cA,nA];refine' ϰa G26 ?_;refine' ϰai rfl rfl P0 P1 hun ?_
 refine' isB ?_;refine' qD' (fun hc => ?_) (fun hc => ?_);refine' ϰY ?_;refine' ϰu ?_ rfl;refine' ϰW (f := AV.bytes) G23 ?_
 refine' ϰy ?_;refine' ϰc ?_;refine' ϰs hG M0 (.c (.nm G23) .n rfl) rfl ?_;refine' ϰT P4 ?_ ?_;omega
 refine' ϰs hG M0 (.c (.nm G9) .n rfl) rfl ?_;refine' ϰT P5 ?_ ?_;omega;refine' ϰO ?_;refine' isI ?_;refine' ϰK ?_
 refine' ϰad P4 (by omega) ?_;intro D4;dsimp only [cA,nA];refine' ϰa G9 ?_;refine' ϰai rfl rfl P0 P6 hun ?_
 refine' isB ?_;refine' qD' (fun hc => ?_) (fun hc => ?_);refine' ϰE ?_;refine' fT ?_;refine' ϰf ?_;refine' ϰd ?_;rotate_left
 (focus (exfalso;first | exact hc rfl | exact hc (hcut1 _ rfl) | exact hc (hcut2 _ rfl) | omega))
 (focus (exfalso;first | exact hc rfl | exact hc (hcut1 _ rfl) | exact hc (hcut2 _ rfl) | omega))
 all_goals first
  |(refine' W.pre ?le h;(case le => exact ⟨LM 83821088 _,.nil _⟩))
  |(exfalso;simp_all;done)
  |(exfalso;have q := hemT (by omega);simp_all;done)
  | trace_state
set_option maxHeartbeats 4000000
section
variable {c : Cx} {σ : St} {dp un : Nat} {Φ : AV → St → Prop}
end
theorem law_to_end {c : Cx} {ca : Addr} {Φ : AFl → St → Prop} {oc : Value} {od : Option Addr} {osl : Array (Option Value)} {name qual : Str} {params : Arguments} {body : List Stmt} {scope : Scope} {dV kV doc pm cdv ct : Value} {an : Option Addr} {sl : Addr} {vs : List Value} {src : Y} (ho : (mk0.heap_1 c.w.params).lookup 282 = some ⟨oc,od,.func (fnOf name qual params body scope dV kV doc pm an cdv ct),osl⟩) (hK : c.K = mk0.heap_1 c.w.params) (hdp : c.dp < 400) (hcb : c.cb = true) (hun : c.un < cLine) (hG : c.glob = GM) (hcl : c.cl = [(("z" : Str),ca)]) (hkz : c.env.kindOf "z" = some .cell) (hkn : c.env.kindOf "nums" = some .local) (hls : c.h0.IsList sl vs.toArray) (hi : IntsAre vs src) (hzs : src.length ≤ 1000) (h : ∀ a block ck : Int,0 ≤ a → 8 ≤ block → block ≤ 31 → ck = 1 ∨ ck = 2 → WSs c (body.drop 25) ⟨[("script",none),("nums",none),("a",some (.int a)),("block",some (.int block)),("check",some (.int ck)),("old",none),("sink",none),("writer",none),("border",none),("sure",none),("k",none),("size",none),("record",none),("begin",none),("data",none),("found",none),("torn",none),("records",none),("lost",none),("whys",none),("breaks",none),("open_end",none),("reader",none),("given",none),("octets",none),("end",none),("first",none)],[]⟩ Φ) : WSs c (body.drop 0) ⟨[("script",some (.ref sl)),("nums",none),("a",none),("block",none),("check",none),("old",none),("sink",none),("writer",none),("border",none),("sure",none),("k",none),("size",none),("record",none),("begin",none),("data",none),("found",none),("torn",none),("records",none),("lost",none),("whys",none),("breaks",none),("open_end",none),("reader",none),("given",none),("octets",none),("end",none),("first",none)],[(ca,.cell none)]⟩ Φ := by
 refine lawP1 ho hK hdp hcb hun hG hcl hkz hkn hls hi hzs (fun l ns hn hz hnn => ?_)
 refine lawP2 ho hK hdp hcb hun hG hcl hkz hkn hn hz hnn (fun a ck ha hk => ?_)
 have hb0 : 8 ≤ 8 + a % 24 := by exact δB rfl
 have hb1 : 8 + a % 24 ≤ 31 := by exact ω1 [_] [] (.le (.a (.n 8) ξ0) (.n 31)) (.lt ξ0 (.n 24)) (Int.emod_lt_of_pos _ (by decide)) rfl
 refine lawP3 ho hK hdp hcb hun hG hcl hkz hkn hn hz hnn hb0 hb1 hk (fun n0 fl x su hn0 => ?_)
 refine lawP4 ho hK hdp hcb hun hG hcl hkz hkn hn hz hnn hb0 hb1 hk hn0 (fun m cv hm => ?_)
 have LF := law_facts (check := ck) hb0 hb1 hnn hn0 hm
 generalize newF ns (8 + a % 24) ck (bdF (oldF ns (8 + a % 24) ck n0).length (8 + a % 24)) (oldF ns (8 + a % 24) ck n0).length m = N at *
 generalize oldF ns (8 + a % 24) ck n0 = old at *
 refine W.pre ?le (lawP5 (cv := none) (hpr := []) (fl := fl) (x := x) (su := su) (a := a) ho hK hdp hcb hun hG hcl hkz hkn hb0 hb1 hk LF (fun g rd rl ra => ?_))
 case le => exact ⟨LM 258 _,.cons P0 (.cons P0 (.cons P0 (.nil _)))⟩
 obtain ⟨R',r1,r2,r3,r4,r5,r6,r7,r8⟩ := LF.rd
 refine lawP6 ho hK hdp hcb hun hG hcl hkz hkn hb0 hb1 hk LF.bd LF.rl r1 (fun R hP => ?_)
 obtain ⟨L0,R0,q1,q2,q3⟩ := LF.ro
 refine W.pre ?le2 (lawP7 (rd := rd) (rl := rl) (g := g) (su := su) (ra := ra) ho hK hdp hcb hun hG hcl hkz hkn hb0 hb1 hk LF.bd LF.bo LF.lo LF.rl hP r6 r7 r8 r2 r3 r4 r5 LF.em q1 q2 q3 LF.su.1 LF.su.2 (h a _ ck ha hb0 hb1 hk))
 case le2 => exact ⟨.refl _,.cons P0 (.cons P0 (.cons P0 (.cons P1 (.nil _))))⟩
set_option maxHeartbeats 8000000
noncomputable abbrev scR : Scope := { kind := .function,names := [("way",.local),("block",.local),("check",.local),("LogReader",.globalImplicit),("LogWriter",.globalImplicit),("BadOption",.globalImplicit)],isGenerator := false,isCoroutine := false }
theorem lr_bad {w : World} {s : Shared} {base g : Heap} {L0 a0 ca L : Addr} {cn : Str} {cs : Scope} {ccd : Value} {m : Str → Option Value} {news : List (Addr × Obj)} {p : Program} {loose : List Str} {mean : ExcName → Option Value} {mg mb : Str → Option Value} {prog : Program}
  {Q E : Value → Shared → Prop} {bb cc : Int} {d : Array UInt8} {t0 t1 t2 : Tok}
  (B : Below (ktrTop 302 7 (some []) cn cs L0 a0 ccd [(("z" : Str),ca)] []) base [envX cn cs L0 a0 ccd [(("z" : Str),ca)]] g) (F : Fr g L s.heap m) (X₀ : (mk0.heap_1 w.params).In g) (N : News g L s.heap news) (T : Top p loose mean mg mb g) (D : KtsDicts ([envX cn cs L0 a0 ccd [(("z" : Str),ca)]].filterMap (·.frame)) g) (XB : (mk0.heap_1 w.params).In base) (TB : Top p loose mean mg mb base)
  (hbad : (bb < 8 ∨ 65542 < bb) ∨ (cc ≠ 1 ∧ cc ≠ 2)) (hbs : bb.natAbs < 100000)
  (hE : ∀ (e t x dx : Addr) (msg : List Value) (G h' : Heap) (k : Nat),Fr g L G m → RaisedS base G [envOf "_law_refused" scR L 277 (.ref 276),envX cn cs L0 a0 ccd [(("z" : Str),ca)]] e (.ref 80) t msg ((x,instObj 233 dx) :: (dx,dictOf [] 0) :: news) h' → RaisedK base [envOf "_law_refused" scR L 277 (.ref 276),envX cn cs L0 a0 ccd [(("z" : Str),ca)]] e (.ref 80) t msg ((x,instObj 233 dx) :: (dx,dictOf [] 0) :: news) h' → G.UpToSlots h' → E (.ref e) { s with heap := h',toks := k }) :
  wpAny (model prog w) ((ktrTop 302 7 (some []) cn cs L0 a0 ccd [(("z" : Str),ca)] []).deeper (envOf "_law_refused" scR L 277 (.ref 276))) (call (.ref 233) [.bytes d t0,.int bb t1,.int cc t2]) Q E s := by
 k_steps
 all_goals first
  |(dsimp only [InitBack];exact hE _ _ _ _ _ _ _ _ (by assumption) (by assumption) (by assumption) (by assumption))
  |(exfalso;omega)
  | trace_state
theorem lw_bad {w : World} {s : Shared} {base g : Heap} {L0 a0 ca L : Addr} {cn : Str} {cs : Scope} {ccd : Value} {m : Str → Option Value} {news : List (Addr × Obj)} {p : Program} {loose : List Str} {mean : ExcName → Option Value} {mg mb : Str → Option Value} {prog : Program}
  {Q E : Value → Shared → Prop} {bb cc ll : Int} {v : Value} {t1 t2 t3 : Tok}
  (B : Below (ktrTop 302 7 (some []) cn cs L0 a0 ccd [(("z" : Str),ca)] []) base [envX cn cs L0 a0 ccd [(("z" : Str),ca)]] g) (F : Fr g L s.heap m) (X₀ : (mk0.heap_1 w.params).In g) (N : News g L s.heap news) (T : Top p loose mean mg mb g) (D : KtsDicts ([envX cn cs L0 a0 ccd [(("z" : Str),ca)]].filterMap (·.frame)) g) (XB : (mk0.heap_1 w.params).In base) (TB : Top p loose mean mg mb base)
  (hbad : (bb < 8 ∨ 65542 < bb) ∨ (cc ≠ 1 ∧ cc ≠ 2) ∨ ll < 0) (hbs : bb.natAbs < 100000)
  (hE : ∀ (e t x dx : Addr) (msg : List Value) (G h' : Heap) (k : Nat),Fr g L G m → RaisedS base G [envOf "_law_refused" scR L 277 (.ref 276),envX cn cs L0 a0 ccd [(("z" : Str),ca)]] e (.ref 80) t msg ((x,instObj 184 dx) :: (dx,dictOf [] 0) :: news) h' → RaisedK base [envOf "_law_refused" scR L 277 (.ref 276),envX cn cs L0 a0 ccd [(("z" : Str),ca)]] e (.ref 80) t msg ((x,instObj 184 dx) :: (dx,dictOf [] 0) :: news) h' → G.UpToSlots h' → E (.ref e) { s with heap := h',toks := k }) :
  wpAny (model prog w) ((ktrTop 302 7 (some []) cn cs L0 a0 ccd [(("z" : Str),ca)] []).deeper (envOf "_law_refused" scR L 277 (.ref 276))) (call (.ref 184) [v,.int bb t1,.int cc t2,.int ll t3]) Q E s := by
 k_steps
 all_goals first
  |(dsimp only [InitBack];exact hE _ _ _ _ _ _ _ _ (by assumption) (by assumption) (by assumption) (by assumption))
  |(exfalso;omega)
  | trace_state
theorem refusedA {w : World} {A₀ : Around} {s : Shared} {base h₀ : Heap} {L a ca : Addr} {m : Str → Option Value} {news : List (Addr × Obj)} {p : Program} {loose : List Str} {mean : ExcName → Option Value} {mg mb : Str → Option Value} {prog : Program}
  {R : Result → Shared → Prop} {cn : Str} {cs : Scope} {ccd : Value} {way block ck : Int} {t1 t2 t3 : Tok}
  (B : Below A₀ base [] h₀) (F : Fr h₀ L s.heap m) (X₀ : (mk0.heap_1 w.params).In h₀) (N : News h₀ L s.heap news) (T : Top p loose mean mg mb h₀) (XB : (mk0.heap_1 w.params).In base) (TB : Top p loose mean mg mb base) (hke : cs.kind = .function)
  (hb0 : 8 ≤ block) (hb1 : block ≤ 31) (hk : ck = 1 ∨ ck = 2)
  (hR : ∀ s',Fr h₀ L s'.heap m → News h₀ L s'.heap news → s' = { s with heap := s'.heap,toks := s'.toks } → R (.ok (.ret (.bool true))) s') :
  codeAny (model prog w) (ktrTop 302 7 (some []) cn cs L a ccd [(("z" : Str),ca)] []) (.call (.ref 277) ⟨[.int way t1,.int block t2,.int ck t3],[]⟩) R s := by
 refine code_defX0 (env := envX cn cs L a ccd [(("z" : Str),ca)]) B F X₀ N T rfl rfl hke (by k_is) (by k_is) (show (302 : Nat) < recursionLimit by unfold recursionLimit;omega) (BindsTo.of_eq rfl) (locs rfl) ?_ rfl rfl rfl (by decide)
 intro g' L' h' FG' F' N' B' X' T' D'
 (try dsimp only)
 (try k_lift B')
 (try k_fold)
 k_with "call ref" => (first | ((with_reducible show wpAny _ _ (call (Value.ref 233) _) _ _ _);refine' lr_bad ?k1 ?k2 ?k3 ?k4 ?k5 ?k6 ?k7 ?k8 ?k9 ?ka ?_;(case k1 => k_asm);(case k2 => k_asm);(case k3 => k_asm);(case k4 => k_asm);(case k5 => k_asm);(case k6 => k_asm);(case k7 => k_asm);(case k8 => k_asm);(case k9 => omega);(case ka => omega);intro e' t' x' dx' msg' G' h' k' F' R' K' U';(try dsimp only at R' K' U' ⊢)) | ((with_reducible show wpAny _ _ (call (Value.ref 184) _) _ _ _);refine' lw_bad ?k1 ?k2 ?k3 ?k4 ?k5 ?k6 ?k7 ?k8 ?k9 ?ka ?_;(case k1 => k_asm);(case k2 => k_asm);(case k3 => k_asm);(case k4 => k_asm);(case k5 => k_asm);(case k6 => k_asm);(case k7 => k_asm);(case k8 => k_asm);(case k9 => omega);(case ka => omega);intro e' t' x' dx' msg' G' h' k' F' R' K' U';(try dsimp only at R' K' U' ⊢)))
 k_steps
 all_goals (try dsimp only [InitBack])
 k_steps
 all_goals first
  |(rename_i kF kN kT kX
    exact hR _ kF (fun p hp => kN p (by first | exact hp | exact .tail _ hp | exact .tail _ (.tail _ hp) | exact .tail _ (.tail _ (.tail _ hp)) | exact .tail _ (.tail _ (.tail _ (.tail _ hp))))) rfl)
  | trace_state
set_option maxHeartbeats 4000000
section
variable {c : Cx} {σ : St} {dp un : Nat} {Φ : AV → St → Prop}
end
theorem refused_ok {c : Cx} {σ : St} {ca : Addr} {way block ck : Int} {Φ : AV → St → Prop} (hK : c.K = mk0.heap_1 c.w.params) (hdp : c.dp = 302) (hun : c.un = 7) (hgd : c.gd = some []) (hout : c.outer = []) (hcl : c.cl = [(("z" : Str),ca)]) (hbase : c.K.In c.base) (htop : Top c.p c.loose c.mean c.mg c.mb c.base)
  (hb0 : 8 ≤ block) (hb1 : block ≤ 31) (hk : ck = 1 ∨ ck = 2) (hw0 : 0 ≤ way) (hw1 : way < 9) (h : Φ (.bool true) σ) : WVs c (.raw (.ref 277)) [.int way,.int block,.int ck] σ Φ := fun T fr s v vs Q H r rs k => by
 cases r.raw_inv
 obtain ⟨v1,v2,v3,rfl,r1,r2,r3⟩ := rs.three
 obtain ⟨t1,rfl⟩ := r1.int_inv;obtain ⟨t2,rfl⟩ := r2.int_inv;obtain ⟨t3,rfl⟩ := r3.int_inv
 obtain ⟨m,F,hl⟩ := H.fr_
 obtain ⟨Lo,ho,N,nd⟩ := H.own
 refine ϰj (E := fun _ _ => False) (wpAny_call ?_)
 have B := c.B
 rw [hout] at B
 have X0 := c.X
 rw [hK] at X0 hbase
 show codeAny (model c.prog c.w) (ktrTop c.dp c.un c.gd c.cn c.cs c.L c.fa c.ccd c.cl c.outer) _ _ _
 rw [hdp,hun,hgd,hcl,hout]
 have fin : ∀ s',Fr c.h0 c.L s'.heap m → News c.h0 c.L s'.heap (Lo ++ (T ++ fr)) → s' = { s with heap := s'.heap,toks := s'.toks } → Q (.bool true) s' := fun s' F' N' e =>
  k (.bool true) _ σ T s' (.refl T) ⟨⟨m,F',hl⟩,H.nd,⟨Lo,ho,N',nd⟩,by rw [e,H.rest]⟩ .of_bool h
 exact refusedA B F X0 N c.T hbase htop c.hk hb0 hb1 hk fin
theorem lawP8 {c : Cx} {ca : Addr} {oc : Value} {od : Option Addr} {osl : Array (Option Value)} {name qual : Str} {params : Arguments} {body : List Stmt} {scope : Scope} {dV kV doc pm cdv ct : Value} {an : Option Addr} {a block ck : Int} (ho : (mk0.heap_1 c.w.params).lookup 282 = some ⟨oc,od,.func (fnOf name qual params body scope dV kV doc pm an cdv ct),osl⟩) (hK : c.K = mk0.heap_1 c.w.params) (hdp : c.dp < 400) (hcb : c.cb = true) (hun : c.un < cLine) (hG : c.glob = GM) (hcl : c.cl = [(("z" : Str),ca)]) (hkz : c.env.kindOf "z" = some .cell) (hkn : c.env.kindOf "nums" = some .local) (hdp2 : c.dp = 302) (hun2 : c.un = 7) (hgd : c.gd = some []) (hout : c.outer = []) (hbase : c.K.In c.base) (htop : Top c.p c.loose c.mean c.mg c.mb c.base) (ha : 0 ≤ a) (hb0 : 8 ≤ block) (hb1 : block ≤ 31) (hk : ck = 1 ∨ ck = 2) : WSs c (body.drop 25) ⟨[("script",none),("nums",none),("a",some (.int a)),("block",some (.int block)),("check",some (.int ck)),("old",none),("sink",none),("writer",none),("border",none),("sure",none),("k",none),("size",none),("record",none),("begin",none),("data",none),("found",none),("torn",none),("records",none),("lost",none),("whys",none),("breaks",none),("open_end",none),("reader",none),("given",none),("octets",none),("end",none),("first",none)],[]⟩ (retK fun av _ => av = .bool true) := by
 refine ϰaJ 25 1 ho (by k_is) ?_
 simp only [List.drop_succ_cons,List.drop_zero,List.take_succ_cons,List.take_zero,List.cons_append,List.nil_append]
 have F : Fix mk0.heap_1 c 400 := ⟨hK,by exact ω1 [] [_] (.Lt (.a ν0 (.n 400)) (.n 900)) (.Eq ν0 (.n 302)) hdp2 rfl⟩
 refine' ϰh ?_;refine' ϰP ?_;refine' ϰr hG M13 ?_ rfl;refine' ϰe ?_ rfl;refine' ϰc ?_;refine' ϰc ?_
 refine' ϰa G2 ?_;refine' ϰi ?_;refine' ϱx ?_ ?_ ?_;decide;decide;refine' ϰi ?_;refine' ϰC ?_ ?_;decide
 refine' ϰz (.c (.nm G3) (.c (.nm G4) .n rfl) rfl) ?_;refine' refused_ok F.K hdp2 hun2 hgd hout hcl hbase htop hb0 hb1 hk ?_ ?_ ?_;exact δn rfl;exact δm rfl
 refine' ϰm ?_;refine' ϰx ?_;rotate_left
 all_goals first | rfl | trace_state
end Mine
set_option maxHeartbeats 8000000
namespace Mine
theorem hloc_of {l : List Str} {scope : Scope} (h : (l.all fun x => scope.names.lookup x == some .local && !(x == ("__debug__" : Str))) = true) : ∀ x ∈ l,scope.names.lookup x = some .local ∧ (x == ("__debug__" : Str)) = false := fun x hx => by
 have := List.all_eq_true.mp h x hx
 simp only [Bool.and_eq_true,beq_iff_eq,Bool.not_eq_true'] at this
 exact this
theorem hgs_of {G : List (Str × AV)} {scope : Scope} (h : (G.all fun p => scope.names.lookup p.1 == some .globalImplicit) = true) : ∀ p ∈ G,scope.names.lookup p.1 = some .globalImplicit := fun p hp => by
 have := List.all_eq_true.mp h p hp
 simpa using this
theorem holds_x.tw1013103019183045405 : True := trivial
theorem holds_x.tw10242904834089786992 : True := trivial
theorem holds_x.tw10260469548145747940 : True := trivial
theorem holds_x.tw10285310983724015675 : True := trivial
theorem holds_x.tw10340016614727961727 : True := trivial
theorem holds_x.tw10366186536115097032 : True := trivial
theorem holds_x.tw10564366453396188602 : True := trivial
theorem holds_x.tw10630295207864481093 : True := trivial
theorem holds_x.tw10740274382603527584 : True := trivial
theorem holds_x.tw10767019344858993661 : True := trivial
theorem holds_x.tw10893590983614140921 : True := trivial
theorem holds_x.tw10995793923100503560 : True := trivial
theorem holds_x.tw11008965463094439200 : True := trivial
theorem holds_x.tw11109992219382355545 : True := trivial
theorem holds_x.tw11116436099843832636 : True := trivial
theorem holds_x.tw11159288600757822531 : True := trivial
theorem holds_x.tw11178636932100152139 : True := trivial
theorem holds_x.tw11370069953559532895 : True := trivial
theorem holds_x.tw1143423510358747949 : True := trivial
theorem holds_x.tw11491335560743923635 : True := trivial
theorem holds_x.tw11827234621639379809 : True := trivial
theorem holds_x.tw11846588057368093893 : True := trivial
theorem holds_x.tw11979851782189997344 : True := trivial
theorem holds_x.tw12008451878416410874 : True := trivial
theorem holds_x.tw12044051375628646886 : True := trivial
theorem holds_x.tw12392101337640284966 : True := trivial
theorem holds_x.tw12510926136085113337 : True := trivial
theorem holds_x.tw12564122751537548396 : True := trivial
theorem holds_x.tw12599994825815652542 : True := trivial
theorem holds_x.tw12611339697964882439 : True := trivial
theorem holds_x.tw12613519046604108992 : True := trivial
theorem holds_x.tw13162022322319706333 : True := trivial
theorem holds_x.tw1322232549355012380 : True := trivial
theorem holds_x.tw1322647273916176341 : True := trivial
theorem holds_x.tw13239112757833510301 : True := trivial
theorem holds_x.tw13247938450789089284 : True := trivial
theorem holds_x.tw13303860874667424573 : True := trivial
theorem holds_x.tw13334495879880272185 : True := trivial
theorem holds_x.tw13445440802089030281 : True := trivial
theorem holds_x.tw13780085575270801307 : True := trivial
theorem holds_x.tw14043935071691950898 : True := trivial
theorem holds_x.tw14300167363780278292 : True := trivial
theorem holds_x.tw14446994116770601422 : True := trivial
theorem holds_x.tw14813143990806440661 : True := trivial
theorem holds_x.tw15026878090091820931 : True := trivial
theorem holds_x.tw15083188661510451056 : True := trivial
theorem holds_x.tw15115499478569810566 : True := trivial
theorem holds_x.tw15505603955552498558 : True := trivial
theorem holds_x.tw15648988814890507448 : True := trivial
theorem holds_x.tw15771738971175959439 : True := trivial
theorem holds_x.tw15819506068722303635 : True := trivial
theorem holds_x.tw15892366474431889011 : True := trivial
theorem holds_x.tw15985769713916343868 : True := trivial
theorem holds_x.tw15986108060161766291 : True := trivial
theorem holds_x.tw16550578648767523015 : True := trivial
theorem holds_x.tw16568013441349550424 : True := trivial
theorem holds_x.tw16643645876835790309 : True := trivial
theorem holds_x.tw17140900442393744658 : True := trivial
theorem holds_x.tw17374625644361683398 : True := trivial
theorem holds_x.tw17464639498542102996 : True := trivial
theorem holds_x.tw17487400504737202572 : True := trivial
theorem holds_x.tw1751838477724723521 : True := trivial
theorem holds_x.tw17583955329473226606 : True := trivial
theorem holds_x.tw17742382817010581530 : True := trivial
theorem holds_x.tw17936912125779880275 : True := trivial
theorem holds_x.tw17954414398900739021 : True := trivial
theorem holds_x.tw18122696548076288566 : True := trivial
theorem holds_x.tw18129265442367515020 : True := trivial
theorem holds_x.tw18216828703794297098 : True := trivial
theorem holds_x.tw18282046565151467807 : True := trivial
theorem holds_x.tw188444379351200947 : True := trivial
theorem holds_x.tw2000687862990396920 : True := trivial
theorem holds_x.tw2063298834482189652 : True := trivial
theorem holds_x.tw2116110997496724517 : True := trivial
theorem holds_x.tw2254980305382985271 : True := trivial
theorem holds_x.tw2348819317705637350 : True := trivial
theorem holds_x.tw2442278585794781583 : True := trivial
theorem holds_x.tw2454270036798367575 : True := trivial
theorem holds_x.tw2525799761103649333 : True := trivial
theorem holds_x.tw2631976457375120080 : True := trivial
theorem holds_x.tw2709744498185820694 : True := trivial
theorem holds_x.tw2952179534171012215 : True := trivial
theorem holds_x.tw3182948982201050385 : True := trivial
theorem holds_x.tw328801838855931862 : True := trivial
theorem holds_x.tw33273770287269876 : True := trivial
theorem holds_x.tw337987547414770150 : True := trivial
theorem holds_x.tw3657560551760905647 : True := trivial
theorem holds_x.tw3770312349603953623 : True := trivial
theorem holds_x.tw3904348070767379465 : True := trivial
theorem holds_x.tw3960819208085770700 : True := trivial
theorem holds_x.tw4090130369270462179 : True := trivial
theorem holds_x.tw4115591125077208614 : True := trivial
theorem holds_x.tw4138662194160478318 : True := trivial
theorem holds_x.tw4156406667706084441 : True := trivial
theorem holds_x.tw4257962080107907903 : True := trivial
theorem holds_x.tw4270127431646748980 : True := trivial
theorem holds_x.tw4370861732768878762 : True := trivial
theorem holds_x.tw443902346100755140 : True := trivial
theorem holds_x.tw4477911639571683033 : True := trivial
theorem holds_x.tw4543520305287042337 : True := trivial
theorem holds_x.tw4691869276317849770 : True := trivial
theorem holds_x.tw5162603745981769296 : True := trivial
theorem holds_x.tw5483098874814139809 : True := trivial
theorem holds_x.tw5555455060372664302 : True := trivial
theorem holds_x.tw5816479542552363790 : True := trivial
theorem holds_x.tw5977085996904638389 : True := trivial
theorem holds_x.tw628324470711977164 : True := trivial
theorem holds_x.tw6349108170706385597 : True := trivial
theorem holds_x.tw641870307014662294 : True := trivial
theorem holds_x.tw6874467912649906274 : True := trivial
theorem holds_x.tw6885479761065927468 : True := trivial
theorem holds_x.tw6929686021709939732 : True := trivial
theorem holds_x.tw720824393681809729 : True := trivial
theorem holds_x.tw7356220902334648809 : True := trivial
theorem holds_x.tw7359599241129492859 : True := trivial
theorem holds_x.tw7542564040308051164 : True := trivial
theorem holds_x.tw7767113413789261172 : True := trivial
theorem holds_x.tw7768005758207569948 : True := trivial
theorem holds_x.tw7787272609841614517 : True := trivial
theorem holds_x.tw788883194125977851 : True := trivial
theorem holds_x.tw7975017790931885310 : True := trivial
theorem holds_x.tw8192248092388606974 : True := trivial
theorem holds_x.tw8242759629470558960 : True := trivial
theorem holds_x.tw8252332454219751565 : True := trivial
theorem holds_x.tw834874718832248021 : True := trivial
theorem holds_x.tw8448555923083622299 : True := trivial
theorem holds_x.tw8578409268992974308 : True := trivial
theorem holds_x.tw8682851937793847614 : True := trivial
theorem holds_x.tw8723518210638192264 : True := trivial
theorem holds_x.tw8725723093884076793 : True := trivial
theorem holds_x.tw8763554069887445495 : True := trivial
theorem holds_x.tw892015575518100172 : True := trivial
theorem holds_x.tw9072321217344372157 : True := trivial
theorem holds_x.tw933899890951154178 : True := trivial
theorem holds_x.tw9462704308148724966 : True := trivial
theorem holds_x.tw9597898792652098177 : True := trivial
theorem holds_x.tw9616382615154696538 : True := trivial
theorem holds_x.tw9649280161689066114 : True := trivial
theorem holds_x.tw9801930707616110931 : True := trivial
theorem holds_x.tw9811229515813611780 : True := trivial
theorem holds_x.tw9852540044128734294 : True := trivial
set_option Elab.async true in
theorem holds_x : PySem.Challenge.rw_no0406_01.Holds := by
 w_on;o_law;o_head (kHook mk0.heap_1 [2,3,15,17,18,20,21,22,29,30,31,32,35,42,43,44,47,54,55,56,59,66,67,68,71,78,79,80,83,85,86,88,89,90,92,93,95,96,97,99,100,102,103,104,105,107,108,110,111,112,114,115,117,118,119,121,122,124,125,126,128,129,131,132,133,135,136,138,139,140,142,143,145,146,154,156,157,159,160,161,163,164,166,167,168,170,171,173,174,175,177,178,180,181,182,183,184,185,186,196,198,199,201,202,203,205,206,208,209,210,212,213,215,216,217,219,220,222,223,224,226,227,229,230,231,232,233,234,235,238,240,241,243,244,245,247,248,250,251,252,255,256,257,259,260,262,263,264,266,267,269,270,271,273,274,276,277,278,281,282] (fun _ => by kernel_rfl));(case hw => w_witness2)
 k_fill
 intro w s₀ s₁ mg mb G Y fa o pm cd doc dV kV ho hd' hcd hD hmg hg args vals as hpre hlay hrd hwl hlo
 have KX := kIn_of Y
 have X := (Ground.X G).1
 have V := (Ground.X G).2
 refine Ground.open G ?_
 intro T B D TE TW
 wrow_args hpre hlay hrd hwl hlo
 rename_i src _ _ _ _ _ _ _ sl vs _ hL _ _ _ hI _ hlen _
 have ed := hD.pos_none rfl
 have ek := hD.kw_none rfl
 subst ed ek
 have hsz : src.length ≤ 1000 := by omega
 refine ϰaO ?_
 refine law_call (K := mk0.heap_1 w.params) (z := "z") (xs := "script") (more := ["nums","a","block","check","old","sink","writer","border","sure","k","size","record","begin","data","found","torn","records","lost","whys","breaks","open_end","reader","given","octets","end","first"]) (G := GM) KX T ho hd' hcd rfl (by decide) (hloc_of rfl) (fun n => rfl) rfl rfl rfl (ϰg (ϰaD _) (ϰg (gf__law_draw _) (ϰg (gf__law_old _) (ϰg (gf_LogWriter _) (ϰg (gf_range _) (ϰg (gf_min _) (ϰg (ϰag _) (ϰg (gf__law_pieces _) (ϰg (gf__law_story _) (ϰg (gf_LogReader _) (ϰg (gf_bytearray _) (ϰg (gf_isinstance _) (ϰg (gf_read_all _) (ϰg (gf__law_refused _) ϰD)))))))))))))) (hgs_of rfl) ?_ ?_
 ·intro c ca hcb hprog hw hKK hdp hcs hcl hgl hh0 hun hgd hout hbase htop
  have hK : c.K = mk0.heap_1 c.w.params := by rw [hKK,hw]
  have hkz : c.env.kindOf "z" = some .cell := by show c.cs.names.lookup _ = _;rw [hcs];rfl
  have hkn : c.env.kindOf "nums" = some .local := by show c.cs.names.lookup _ = _;rw [hcs];rfl
  have hdp2 : c.dp = 302 := hdp
  have hul : c.un < cLine := by rw [hun];decide
  have hls : c.h0.IsList sl vs.toArray := by rw [hh0];exact hL
  show WSs c (List.drop 0 _) ⟨[("script",some (.ref sl)),("nums",none),("a",none),("block",none),("check",none),("old",none),("sink",none),("writer",none),("border",none),("sure",none),("k",none),("size",none),("record",none),("begin",none),("data",none),("found",none),("torn",none),("records",none),("lost",none),("whys",none),("breaks",none),("open_end",none),("reader",none),("given",none),("octets",none),("end",none),("first",none)],[(ca,.cell none)]⟩ _
  refine law_to_end (by k_is) hK (by omega) hcb hul hgl hcl hkz hkn hls hI hsz (fun a block ck ha hb0 hb1 hk => ?_)
  exact lawP8 (by k_is) hK (by omega) hcb hul hgl hcl hkz hkn hdp2 hun hgd hout hbase htop ha hb0 hb1 hk
 ·intro L m s' F e
  exact (goodW_bool F (by rw [e];exact hg) (raisesW_false (by wrow_none_raised)) (postW_of (by wrow_shape) (by wtm_val) rfl) (by rw [e])).toG
end Mine

theorem PySem.Challenge.cw_no0406_01_holds : PySem.Challenge.rw_no0406_01.Holds := by
  exact Mine.holds_x
