import PyProof.Rows.All
import Wide.All
import OpenK.AllK
import Wide.FinOn
import HandS.ForMost
import HandS.Codes
import HandS.Defaults
import HandS.More
import HandS.ClsMeth
import HandS.Wide
import HandS.Conv
import HandS.Style
import HandS.Flow
import HandS.Steps
import HandS.NoneIn
import HandS.CallLocal
import KE.KStateDown
import HandS.HeadHook1
import HandS.HeadHook2
import HandS.HeadHook3
import HandS.HeadNt
import HandS.Head0
import HandS.Head1
import HandS.Head2
import HandS.HeadEnd
import HandS.Base
import KE.KEqSeq
import KE.GoesEnum
import HandS.Walk
import PySem.Challenge.RW_splitalike_k21_whole_far_partings
set_option Elab.async false
set_option linter.all false

section
set_option maxRecDepth 100000
set_option maxHeartbeats 4000000
/-! K0: the text by places, heaps that grow, short steps through readings. -/
namespace K21
open PySem PySem.Spec PyProof.Rows L2
noncomputable section
/-- the i-th statement of the top -/
def topS (i : Nat) : Stmt := PySem.Challenge.pw_splitalike_k21_whole_far_partings.main.body.getD i (.Pass ⟨0, 0, 0, 0⟩)
/-- the j-th statement of the class at i -/
def inC (i j : Nat) : Stmt := inClass (topS i) j

/-! ### heaps -/
/-- all that stood and is not of S stands -/
def Kp (S : Addr → Prop) (H H' : Hp) : Prop := ∀ b o, ¬ S b → H b = some o → H' b = some o
/-- o stands at a, which is not of S -/
def At (S : Addr → Prop) (H : Hp) (a : Addr) (o : HO) : Prop := H a = some o ∧ ¬ S a
/-- no address -/
def No : Addr → Prop := fun _ => False
theorem Kp.refl {S : Addr → Prop} (H : Hp) : Kp S H H := fun _ _ _ h => h
theorem Kp.trans {S : Addr → Prop} {H H1 H2 : Hp} (a : Kp S H H1) (b : Kp S H1 H2) : Kp S H H2 := fun c o n h => b c o n (a c o n h)
theorem Kp.same {S : Addr → Prop} {H H' : Hp} (s : Same H H') : Kp S H H' := fun b o _ h => s b o h
theorem Kp.upS {S : Addr → Prop} {H H' : Hp} {a : Addr} {o : HO} (k : Kp S H H') (h : At S H a o) : At S H' a o := ⟨k a o h.2 h.1, h.2⟩
theorem Same.up {H H' : Hp} {a : Addr} {o : HO} (s : Same H H') (h : H a = some o) : H' a = some o := s a o h
theorem Kp.no {H H' : Hp} (k : Kp No H H') : Same H H' := fun b o h => k b o id h
/-- what S' has beyond S is new to H -/
theorem At.sub {S S' : Addr → Prop} {H : Hp} {a : Addr} {o : HO} (h : At S H a o) (s : ∀ b, S' b → S b ∨ H b = none) : At S' H a o := ⟨h.1, fun q => by
  rcases s a q with q | q
  · exact h.2 q
  · rw [h.1] at q; cases q⟩
theorem At.no {H : Hp} {a : Addr} {o : HO} (h : H a = some o) : At No H a o := ⟨h, id⟩
theorem Kp.sub {S S' : Addr → Prop} {H H' : Hp} (h : Kp S H H') (s : ∀ b, S b → S' b ∨ H b = none) : Kp S' H H' := fun b o n e => h b o (fun q => by
  rcases s b q with q | q
  · exact n q
  · rw [e] at q; cases q) e
/-- a new object -/
structure New (H H' : Hp) (p : Addr) (o : HO) : Prop where
  same : Same H H'
  at_ : H' p = some o
  fresh : H p = none
theorem New.of {H : Hp} {p : Addr} {o : HO} (h : H p = none) : New H (upd H p o) p o := ⟨fun b u e => by rw [upd_ne (ne_of_none e h)]; exact e, upd_same, h⟩
theorem New.up {H H' : Hp} {p a : Addr} {o u : HO} (n : New H H' p o) (h : H a = some u) : H' a = some u := n.same a u h
theorem New.kp {S : Addr → Prop} {H H' : Hp} {p : Addr} {o : HO} (n : New H H' p o) : Kp S H H' := Kp.same n.same
theorem New.ne {H H' : Hp} {p a : Addr} {o u : HO} (n : New H H' p o) (h : H a = some u) : p ≠ a := (ne_of_none h n.fresh).symm
/-- an object of S is changed -/
theorem Kp.upd {S : Addr → Prop} {H : Hp} {l : Addr} {o : HO} (h : S l) : Kp S H (upd H l o) := fun b u n e => by rw [upd_ne (fun q => n (by rw [q]; exact h))]; exact e
/-- l alone is changed -/
structure Chg (H H' : Hp) (l : Addr) (o : HO) : Prop where
  kp : ∀ b u, b ≠ l → H b = some u → H' b = some u
  at_ : H' l = some o
theorem Chg.of {H : Hp} {l : Addr} {o : HO} : Chg H (L2.upd H l o) l o := ⟨fun b u n e => by rw [upd_ne n]; exact e, upd_same⟩
theorem Chg.kpS {S : Addr → Prop} {H H' : Hp} {l : Addr} {o : HO} (c : Chg H H' l o) (h : S l) : Kp S H H' := fun b u n e => c.kp b u (fun q => n (by rw [q]; exact h)) e
theorem Chg.up {H H' : Hp} {l a : Addr} {o u : HO} (c : Chg H H' l o) (n : a ≠ l) (h : H a = some u) : H' a = some u := c.kp a u n h
theorem Same.chg {H0 H H' : Hp} {l : Addr} {o : HO} (s : Same H0 H) (n : H0 l = none) (c : Chg H H' l o) : Same H0 H' := fun b u e => c.kp b u (ne_of_none e n) (s b u e)

/-! ### steps through readings -/
section
variable {σ : L2.St} {H : Hp} {Q : VK} {ta tb tc te tx : TE} {t u : TT} {r r' : R2} {K : PySem.W.Frag} {D : Ends} {ts tz tw : TS} {g : TG} {v x y : V} {taa tr : TA} {QA : List V → Hp → Prop} {QT : Bool → Hp → Prop} {QS : L2.St → Hp → Prop}
theorem x_var {i : Nat} (h : σ[i]? = some (some v)) (k : Q v H) : tVar i σ H Q := ⟨v, h, k⟩
theorem x_c (k : Q v H) : tC v σ H Q := k
theorem x_op (k : ta σ H fun x H1 => tb σ H1 fun y H2 => r x y H2 Q) : tOp r ta tb σ H Q := k
theorem x_un {ru : V → Hp → VK → Prop} (k : ta σ H fun x H1 => ru x H1 Q) : tUn ru ta σ H Q := k
theorem x_I0 {i j : Int} {f : Int → Int → V} (k : Q (f i j) H) : rI0 f (.int i) (.int j) H Q := ⟨i, j, rfl, rfl, k⟩
theorem x_I {i j : Int} {C : Int → Int → Prop} {f : Int → Int → V} (c : C i j) (k : Q (f i j) H) : rI C f (.int i) (.int j) H Q := ⟨i, j, rfl, rfl, c, k⟩
theorem x_U {i : Int} {f : Int → V} (k : Q (f i) H) : rU f (.int i) H Q := ⟨i, rfl, k⟩
theorem x_eqI {i j : Int} (k : Q (.bl (decide (i = j))) H) : rEq (.int i) (.int j) H Q := ⟨rfl, by
  rw [show decide (V.int i = V.int j) = decide (i = j) from by
    by_cases e : i = j
    · rw [decide_eq_true e, decide_eq_true (congrArg V.int e)]
    · rw [decide_eq_false e, decide_eq_false (fun z => e (V.int.inj z))]]
  exact k⟩
theorem x_neI {i j : Int} (k : Q (.bl (!decide (i = j))) H) : rNe (.int i) (.int j) H Q := ⟨rfl, by
  rw [show decide (V.int i = V.int j) = decide (i = j) from by
    by_cases e : i = j
    · rw [decide_eq_true e, decide_eq_true (congrArg V.int e)]
    · rw [decide_eq_false e, decide_eq_false (fun z => e (V.int.inj z))]]
  exact k⟩
theorem x_eqS {a b : Str} (k : Q (.bl (decide (a = b))) H) : rEq (.str a) (.str b) H Q := ⟨rfl, by
  rw [show decide (V.str a = V.str b) = decide (a = b) from by
    by_cases e : a = b
    · rw [decide_eq_true e, decide_eq_true (congrArg V.str e)]
    · rw [decide_eq_false e, decide_eq_false (fun z => e (V.str.inj z))]]
  exact k⟩
theorem x_neS {a b : Str} (k : Q (.bl (!decide (a = b))) H) : rNe (.str a) (.str b) H Q := ⟨rfl, by
  rw [show decide (V.str a = V.str b) = decide (a = b) from by
    by_cases e : a = b
    · rw [decide_eq_true e, decide_eq_true (congrArg V.str e)]
    · rw [decide_eq_false e, decide_eq_false (fun z => e (V.str.inj z))]]
  exact k⟩
theorem x_isN (k : Q (.bl (decide (x = .non))) H) : rIsN x .non H Q := ⟨rfl, k⟩
theorem x_notN (k : Q (.bl (!decide (x = .non))) H) : rNotN x .non H Q := ⟨rfl, k⟩
theorem x_nil (k : QA [] H) : tNil σ H QA := k
theorem x_cons (k : ta σ H fun x H1 => tr σ H1 fun xs H2 => QA (x :: xs) H2) : tCons ta tr σ H QA := k

/-! new objects -/
def AlT (xs : List V) (H : Hp) (Q : VK) : Prop := xs.length ≤ sizeLine ∧ ∀ p, H p = none → Q (.ref p) (upd H p (.tup xs))
def AlL (xs : List V) (H : Hp) (Q : VK) : Prop := xs.length ≤ sizeLine ∧ ∀ p, H p = none → Q (.ref p) (upd H p (.lst xs))
def AlO (o : HO) (H : Hp) (Q : VK) : Prop := ∀ p, H p = none → Q (.ref p) (upd H p o)
theorem x_AlT {xs : List V} (hl : xs.length ≤ sizeLine) (k : ∀ p H2, New H H2 p (.tup xs) → Q (.ref p) H2) : AlT xs H Q := ⟨hl, fun p hp => k p _ (New.of hp)⟩
theorem x_AlL {xs : List V} (hl : xs.length ≤ sizeLine) (k : ∀ p H2, New H H2 p (.lst xs) → Q (.ref p) H2) : AlL xs H Q := ⟨hl, fun p hp => k p _ (New.of hp)⟩
theorem x_AlO {o : HO} (k : ∀ p H2, New H H2 p o → Q (.ref p) H2) : AlO o H Q := fun p hp => k p _ (New.of hp)
theorem x_tup (k : taa σ H fun xs H1 => AlT xs H1 Q) : tTup taa σ H Q := k
theorem x_lst (k : taa σ H fun xs H1 => AlL xs H1 Q) : tLst taa σ H Q := k
theorem x_dnew (k : AlO (.dK []) H Q) : tDNewK σ H Q := k

/-! tests -/
def BlA (x : V) (H : Hp) (QT : Bool → Hp → Prop) : Prop := ∃ c, x = .bl c ∧ QT c H
theorem x_test (k : te σ H fun x H' => BlA x H' QT) : tTest te σ H QT := k
theorem x_B (k : te σ H fun x H' => BlA x H' QT) : tB te σ H QT := k
theorem x_bl {c : Bool} (k : QT c H) : BlA (.bl c) H QT := ⟨c, rfl, k⟩
theorem x_ifS (k : t σ H fun b H1 => if b = true then ts D σ H1 else tz D σ H1) : tIfS t ts tz D σ H := k
theorem x_if (k : t σ H fun c H1 => if c = true then ta σ H1 Q else tb σ H1 Q) : tIf t ta tb σ H Q := k
theorem x_and (k : t σ H fun c H1 => if c = true then u σ H1 QT else QT false H1) : tAnd t u σ H QT := k
theorem x_or (k : t σ H fun c H1 => if c = true then QT true H1 else u σ H1 QT) : tOr t u σ H QT := k
theorem x_not (k : t σ H fun c H1 => QT (!c) H1) : tNot t σ H QT := k
theorem x_andV (k : ta σ H fun x H1 => BlA x H1 fun c H1 => if c = true then tb σ H1 Q else Q (.bl false) H1) : tAndV ta tb σ H Q := k
theorem x_orV (k : ta σ H fun x H1 => BlA x H1 fun c H1 => if c = true then Q (.bl true) H1 else tb σ H1 Q) : tOrV ta tb σ H Q := k
theorem x_chain (k : ta σ H fun x H1 => tb σ H1 fun y H2 => r x y H2 fun z H3 => BlA z H3 fun c H3 => if c = true then tc σ H3 fun w' H4 => r' y w' H4 Q else Q (.bl false) H3) : tChain r r' ta tb tc σ H Q := k
theorem x_ite {c A B : Prop} [Decidable c] (h1 : c → A) (h2 : ¬ c → B) : if decide c = true then A else B := by
  by_cases h : c
  · rw [decide_eq_true h]; exact h1 h
  · rw [decide_eq_false h]; exact h2 h
theorem x_iteN {c A B : Prop} [Decidable c] (h1 : ¬ c → A) (h2 : c → B) : if (!decide c) = true then A else B := by
  by_cases h : c
  · rw [decide_eq_true h]; exact h2 h
  · rw [decide_eq_false h]; exact h1 h
theorem x_yes {c : Bool} {A B : Prop} (h : c = true) (k : A) : if c = true then A else B := by rw [if_pos h]; exact k
theorem x_no {c : Bool} {A B : Prop} (h : c = false) (k : B) : if c = true then A else B := by rw [h]; exact k
theorem x_iteB {c : Bool} {A B : Prop} (h1 : c = true → A) (h2 : c = false → B) : if c = true then A else B := by
  cases c
  · exact h2 rfl
  · exact h1 rfl
theorem x_iteCC {c : Bool} {v1 v2 : V} (k : ∀ v, v = v1 ∨ v = v2 → Q v H) : if c = true then tC v1 σ H Q else tC v2 σ H Q := by
  cases c
  · exact k _ (.inr rfl)
  · exact k _ (.inl rfl)
theorem dnt {p : Prop} [Decidable p] (h : p) : decide p = true := decide_eq_true h
theorem dnf {p : Prop} [Decidable p] (h : ¬ p) : decide p = false := decide_eq_false h
theorem dyt {p : Prop} [Decidable p] (h : ¬ p) : (!decide p) = true := by rw [decide_eq_false h]; rfl
theorem dyf {p : Prop} [Decidable p] (h : p) : (!decide p) = false := by rw [decide_eq_true h]; rfl

/-! statements -/
variable {n b c : L2.St → Hp → Prop} {rt : VK}
theorem x_seq (k : ts ⟨tz ⟨n, rt, b, c⟩, rt, b, c⟩ σ H) : tSeq ts tz ⟨n, rt, b, c⟩ σ H := k
theorem x_next (k : n σ H) : tNext ⟨n, rt, b, c⟩ σ H := k
theorem x_break (k : b σ H) : tBreak ⟨n, rt, b, c⟩ σ H := k
theorem x_drop (k : te σ H fun _ H1 => n σ H1) : tDrop te ⟨n, rt, b, c⟩ σ H := k
theorem x_ret (k : te σ H rt) : tRet te ⟨n, rt, b, c⟩ σ H := k
theorem x_retN (k : rt .non H) : tRetN ⟨n, rt, b, c⟩ σ H := k
theorem x_asg (k : te σ H fun x H1 => g x σ H1 n) : tAsg te g ⟨n, rt, b, c⟩ σ H := k
def ParA (i j : Nat) (n : L2.St → Hp → Prop) (σ : L2.St) (vs : List V) (H : Hp) : Prop := ∃ v w, vs = [v, w] ∧ n ((σ.set i (some v)).set j (some w)) H
theorem x_par {i j : Nat} (k : taa σ H fun vs H1 => ParA i j n σ vs H1) : tPar i j taa ⟨n, rt, b, c⟩ σ H := k
theorem x_par2 {i j : Nat} {v w : V} (k : n ((σ.set i (some v)).set j (some w)) H) : ParA i j n σ [v, w] H := ⟨v, w, rfl, k⟩
def Par3A (i j l : Nat) (n : L2.St → Hp → Prop) (σ : L2.St) (vs : List V) (H : Hp) : Prop := ∃ u v w, vs = [u, v, w] ∧ n (((σ.set i (some u)).set j (some v)).set l (some w)) H
theorem x_par3 {i j l : Nat} (k : taa σ H fun vs H1 => Par3A i j l n σ vs H1) : tPar3 i j l taa ⟨n, rt, b, c⟩ σ H := k
theorem x_par33 {i j l : Nat} {u v w : V} (k : n (((σ.set i (some u)).set j (some v)).set l (some w)) H) : Par3A i j l n σ [u, v, w] H := ⟨u, v, w, rfl, k⟩
theorem x_cut {M : L2.St → Hp → Prop} (h : ts ⟨M, rt, b, c⟩ σ H) (k : ∀ σ' H', M σ' H' → tz ⟨n, rt, b, c⟩ σ' H') : C8.tCut ts tz ⟨n, rt, b, c⟩ σ H := ⟨M, h, k⟩
theorem x_gname {i : Nat} (k : QS (σ.set i (some v)) H) : gName i v σ H QS := k
theorem x_gtup {a : Addr} {xs : List V} {m : Nat} {gs : TGs} (h : SqT K H a xs) (hl : xs.length = m) (k : gs xs σ H QS) : gTup K m gs (.ref a) σ H QS := ⟨a, xs, rfl, h, hl, k⟩
theorem x_gcons {gs : TGs} {vs : List V} (k : g v σ H fun σ' H' => gs vs σ' H' QS) : gCons g gs (v :: vs) σ H QS := ⟨v, vs, rfl, k⟩
theorem x_gnil (k : QS σ H) : gNil [] σ H QS := ⟨rfl, k⟩
theorem x_gsub {ti : TE} {to : TE} {s3 : TSet} (k : to σ H fun o H1 => ti σ H1 fun i H2 => s3 o i v H2 fun H3 => QS σ H3) : gSub to ti s3 v σ H QS := k
theorem x_setL {p : Addr} {xs : List V} {i : Int} {j : Nat} {QH : Hp → Prop} (h : H p = some (.lst xs)) (hj : ixN xs.length i = some j) (k : ∀ H2, Chg H H2 p (.lst (xs.set j v)) → QH H2) : rSetL (.ref p) (.int i) v H QH := ⟨p, xs, i, j, rfl, rfl, h, hj, k _ Chg.of⟩
theorem x_aug {i : Nat} {ti : TIp} {z : V} (h : σ[i]? = some (some z)) (k : te σ H fun y H1 => ti z y H1 fun w H2 => n (σ.set i (some w)) H2) : tAug i te ti ⟨n, rt, b, c⟩ σ H := ⟨z, h, k⟩
/-! calls -/
theorem x_call {sp : Sp} {dvs : List V} {E : XK} (k : taa σ H fun vs H1 => sp (vs ++ dvs) H1 Q E) : tCall sp dvs E taa σ H Q := k
def MethA (C : Addr) (m : Str) (sp : Sp) (dvs : List V) (E : XK) (taa : TA) (σ : L2.St) (x : V) (H : Hp) (Q : VK) : Prop := ∃ a dx fs, x = .ref a ∧ H a = some (.ins C dx fs) ∧ fs.lookup m = none ∧ taa σ H fun vs H2 => sp (x :: (vs ++ dvs)) H2 Q E
theorem x_meth {C : Addr} {m : Str} {sp : Sp} {dvs : List V} {E : XK} (k : ta σ H fun x H1 => MethA C m sp dvs E taa σ x H1 Q) : tMeth C m sp dvs E ta taa σ H Q := k
theorem x_MethA {C a dx : Addr} {fs : List (Str × V)} {m : Str} {sp : Sp} {dvs : List V} {E : XK} (h : H a = some (.ins C dx fs)) (hm : fs.lookup m = none) (k : taa σ H fun vs H2 => sp (.ref a :: (vs ++ dvs)) H2 Q E) : MethA C m sp dvs E taa σ (.ref a) H Q := ⟨a, dx, fs, rfl, h, hm, k⟩
def FldA (K : PySem.W.Frag) (f : Str) (x : V) (H : Hp) (Q : VK) : Prop := ∃ a C dx fs v, x = .ref a ∧ H a = some (.ins C dx fs) ∧ Cls K C ∧ NoAttr K C f ∧ fs.lookup f = some v ∧ Q v H
theorem x_fld {f : Str} (k : ta σ H fun x H1 => FldA K f x H1 Q) : tFld K ta f σ H Q := k
theorem x_FldA {C a dx : Addr} {fs : List (Str × V)} {f : Str} (h : H a = some (.ins C dx fs)) (hc : Cls K C) (hn : NoAttr K C f) (hl : fs.lookup f = some v) (k : Q v H) : FldA K f (.ref a) H Q := ⟨a, C, dx, fs, v, rfl, h, hc, hn, hl, k⟩
def SFldA (K : PySem.W.Frag) (f : Str) (n : L2.St → Hp → Prop) (σ : L2.St) (y x : V) (H : Hp) : Prop := ∃ a C dx fs, x = .ref a ∧ H a = some (.ins C dx fs) ∧ Cls K C ∧ NoAttr K C f ∧ fs.length < 1000 ∧ n σ (upd H a (.ins C dx (putF f y fs)))
theorem x_sfld {f : Str} (k : te σ H fun y H1 => ta σ H1 fun x H2 => SFldA K f n σ y x H2) : sFld K ta te f ⟨n, rt, b, c⟩ σ H := k
theorem x_SFldA {f : Str} {a C dx : Addr} {fs : List (Str × V)} (h : H a = some (.ins C dx fs)) (hc : Cls K C) (hn : NoAttr K C f) (hl : fs.length < 1000) (k : ∀ H2, Chg H H2 a (.ins C dx (putF f y fs)) → n σ H2) : SFldA K f n σ y (.ref a) H := ⟨a, C, dx, fs, rfl, h, hc, hn, hl, k _ Chg.of⟩
theorem x_cb {rc : List V → Hp → VK → Prop} (k : taa σ H fun vs H1 => rc vs H1 Q) : tCB rc taa σ H Q := k
def rLenK (K : PySem.W.Frag) : List V → Hp → VK → Prop := fun xs H Q => ∃ p ys, xs = [.ref p] ∧ (SqL K H p ys ∨ SqT K H p ys) ∧ Q (.int ys.length) H
theorem x_len {p : Addr} {ys : List V} (h : SqL K H p ys ∨ SqT K H p ys) (k : Q (.int ys.length) H) : rLenK K [.ref p] H Q := ⟨p, ys, rfl, h, k⟩
theorem x_lenL {p : Addr} {ys : List V} (h : H p = some (.lst ys)) (k : Q (.int ys.length) H) : rLenK K [.ref p] H Q := ⟨p, ys, rfl, .inl (SqL.of h), k⟩
theorem x_lenT {p : Addr} {ys : List V} (h : H p = some (.tup ys)) (k : Q (.int ys.length) H) : rLenK K [.ref p] H Q := ⟨p, ys, rfl, .inr (SqT.of h), k⟩
def rIntK : List V → Hp → VK → Prop := fun xs H Q => (∃ i, xs = [.int i] ∧ Q (.int i) H) ∨ ∃ k, xs = [.bl k] ∧ Q (.int (if k then 1 else 0)) H
theorem x_int {i : Int} (k : Q (.int i) H) : rIntK [.int i] H Q := .inl ⟨i, rfl, k⟩
theorem x_intB {i : Bool} (k : Q (.int (if i then 1 else 0)) H) : rIntK [.bl i] H Q := .inr ⟨i, rfl, k⟩
def rMin2K : List V → Hp → VK → Prop := fun xs H Q => ∃ i j, xs = [.int i, .int j] ∧ Q (.int (if j < i then j else i)) H
def rMax2K : List V → Hp → VK → Prop := fun xs H Q => ∃ i j, xs = [.int i, .int j] ∧ Q (.int (if j > i then j else i)) H
theorem x_min2 {i j : Int} (k : Q (.int (if j < i then j else i)) H) : rMin2K [.int i, .int j] H Q := ⟨i, j, rfl, k⟩
theorem x_max2 {i j : Int} (k : Q (.int (if j > i then j else i)) H) : rMax2K [.int i, .int j] H Q := ⟨i, j, rfl, k⟩
theorem x_ixL {p : Addr} {xs : List V} {i : Int} (h : SqL K H p xs) (hv : atI xs i = some v) (k : Q v H) : rIxL K (.ref p) (.int i) H Q := ⟨p, xs, i, v, rfl, rfl, h, hv, k⟩
theorem x_ixT {p : Addr} {xs : List V} {i : Int} (h : SqT K H p xs) (hv : atI xs i = some v) (k : Q v H) : rIxT K (.ref p) (.int i) H Q := ⟨p, xs, i, v, rfl, rfl, h, hv, k⟩
theorem x_in {p : Addr} {xs : List V} (h : SqL K H p xs ∨ SqT K H p xs) (hx : flatV x = true) (ha : xs.all flatV = true) (k : Q (.bl (inV x xs)) H) : rIn K false x (.ref p) H Q := ⟨p, xs, rfl, h, hx, ha, k⟩
theorem x_notIn {p : Addr} {xs : List V} (h : SqL K H p xs ∨ SqT K H p xs) (hx : flatV x = true) (ha : xs.all flatV = true) (k : Q (.bl (!inV x xs)) H) : rIn K true x (.ref p) H Q := ⟨p, xs, rfl, h, hx, ha, k⟩
def BmA (K : PySem.W.Frag) (T : String) (rm : V → List V → Hp → VK → Prop) (taa : TA) (σ : L2.St) (x : V) (H : Hp) (Q : VK) : Prop := tyV K T x H ∧ taa σ H fun xs H2 => rm x xs H2 Q
theorem x_bm {T : String} {rm : V → List V → Hp → VK → Prop} (k : ta σ H fun x H1 => BmA K T rm taa σ x H1 Q) : tBM K T rm ta taa σ H Q := k
theorem x_BmA {p : Addr} {xs : List V} {rm : V → List V → Hp → VK → Prop} (h : SqL K H p xs) (k : taa σ H fun xs H2 => rm (.ref p) xs H2 Q) : BmA K "list" rm taa σ (.ref p) H Q := ⟨.inl ⟨rfl, _, h⟩, k⟩
def BmA0 (K : PySem.W.Frag) (T : String) (rm : V → List V → Hp → VK → Prop) (x : V) (H : Hp) (Q : VK) : Prop := tyV K T x H ∧ rm x [] H Q
theorem x_bm0 {T : String} {rm : V → List V → Hp → VK → Prop} (k : ta σ H fun x H1 => BmA0 K T rm x H1 Q) : tBM0 K T rm ta σ H Q := k
theorem x_BmA0 {p : Addr} {xs : List V} {rm : V → List V → Hp → VK → Prop} (h : SqL K H p xs) (k : rm (.ref p) [] H Q) : BmA0 K "list" rm (.ref p) H Q := ⟨.inl ⟨rfl, _, h⟩, k⟩
theorem x_append {l : Addr} {xs : List V} (h : H l = some (.lst xs)) (hl : xs.length < sizeLine) (k : ∀ H2, Chg H H2 l (.lst (xs ++ [y])) → Q .non H2) : rAppend (.ref l) [y] H Q := ⟨l, xs, y, rfl, rfl, h, hl, k _ Chg.of⟩

theorem x_ixLh {p : Addr} {xs : List V} {i : Int} (h : H p = some (.lst xs)) (hv : atI xs i = some v) (k : Q v H) : rIxL K (.ref p) (.int i) H Q := x_ixL (SqL.of h) hv k
theorem x_ixTh {p : Addr} {xs : List V} {i : Int} (h : H p = some (.tup xs)) (hv : atI xs i = some v) (k : Q v H) : rIxT K (.ref p) (.int i) H Q := x_ixT (SqT.of h) hv k
theorem x_gtuph {a : Addr} {xs : List V} {m : Nat} {gs : TGs} (h : H a = some (.tup xs)) (hl : xs.length = m) (k : gs xs σ H QS) : gTup K m gs (.ref a) σ H QS := x_gtup (SqT.of h) hl k
theorem x_inL {p : Addr} {xs : List V} (h : H p = some (.lst xs)) (hx : flatV x = true) (ha : xs.all flatV = true) (k : Q (.bl (inV x xs)) H) : rIn K false x (.ref p) H Q := x_in (.inl (SqL.of h)) hx ha k
theorem x_inT {p : Addr} {xs : List V} (h : H p = some (.tup xs)) (hx : flatV x = true) (ha : xs.all flatV = true) (k : Q (.bl (inV x xs)) H) : rIn K false x (.ref p) H Q := x_in (.inr (SqT.of h)) hx ha k
theorem x_notInL {p : Addr} {xs : List V} (h : H p = some (.lst xs)) (hx : flatV x = true) (ha : xs.all flatV = true) (k : Q (.bl (!inV x xs)) H) : rIn K true x (.ref p) H Q := x_notIn (.inl (SqL.of h)) hx ha k
theorem x_BmAh {p : Addr} {xs : List V} {rm : V → List V → Hp → VK → Prop} (h : H p = some (.lst xs)) (k : taa σ H fun xs H2 => rm (.ref p) xs H2 Q) : BmA K "list" rm taa σ (.ref p) H Q := x_BmA (SqL.of h) k
theorem x_BmA0h {p : Addr} {xs : List V} {rm : V → List V → Hp → VK → Prop} (h : H p = some (.lst xs)) (k : rm (.ref p) [] H Q) : BmA0 K "list" rm (.ref p) H Q := x_BmA0 (SqL.of h) k

/-! loops -/
def ForA (J : V → Hp → (It → Hp → Prop) → Prop) (g : TG) (tb : TS) (D : Ends) (σ : L2.St) (x : V) (H : Hp) : Prop := J x H fun J H1 => ∃ W : Nat → Nat → L2.St → Hp → Prop, (∃ m, W 0 m σ H1) ∧ ∀ i m σ H, W i m σ H →
  (J.stop i H ∧ D.nx σ H) ∨ (J.go i H ∧ ∃ N : L2.St → Hp → Prop, (∀ σ' H', N σ' H' → ∃ m', m' < m ∧ W (i + 1) m' σ' H') ∧ ∀ x H', J.yld i H x H' → g x σ H' fun σ2 H2 => tb { D with nx := N, ct := N, bk := D.nx } σ2 H2)
def jL (K : PySem.W.Frag) : V → Hp → (It → Hp → Prop) → Prop := fun x H1 R => ∃ a, x = .ref a ∧ (∃ xs, SqL K H1 a xs) ∧ R (Itl K a) H1
def jT (K : PySem.W.Frag) : V → Hp → (It → Hp → Prop) → Prop := fun x H1 R => ∃ a, x = .ref a ∧ (∃ xs, SqT K H1 a xs) ∧ R (Itt K a) H1
theorem x_forL (k : ta σ H fun x H1 => ForA (jL K) g ts D σ x H1) : tFor (iList K ta) g ts D σ H := k
theorem x_forT (k : ta σ H fun x H1 => ForA (jT K) g ts D σ x H1) : tFor (iTup K ta) g ts D σ H := k
theorem x_ForL {a : Addr} {xs : List V} (h : SqL K H a xs) (Pv : Nat → L2.St → Hp → Prop) (h0 : Pv 0 σ H) (hl : ∀ i σ H, i ≤ xs.length → Pv i σ H → SqL K H a xs)
    (hs : ∀ i x σ H, xs[i]? = some x → Pv i σ H → g x σ H fun σ2 H2 => ts ⟨Pv (i + 1), rt, n, Pv (i + 1)⟩ σ2 H2) (hd : ∀ σ H, Pv xs.length σ H → n σ H) : ForA (jL K) g ts ⟨n, rt, b, c⟩ σ (.ref a) H :=
  ⟨a, rfl, ⟨xs, h⟩, for_list (D := ⟨n, rt, b, c⟩) Pv h0 hl hs hd⟩
theorem x_ForT {a : Addr} {xs : List V} (h : SqT K H a xs) (Pv : Nat → L2.St → Hp → Prop) (h0 : Pv 0 σ H) (hl : ∀ i σ H, i ≤ xs.length → Pv i σ H → SqT K H a xs)
    (hs : ∀ i x σ H, xs[i]? = some x → Pv i σ H → g x σ H fun σ2 H2 => ts ⟨Pv (i + 1), rt, n, Pv (i + 1)⟩ σ2 H2) (hd : ∀ σ H, Pv xs.length σ H → n σ H) : ForA (jT K) g ts ⟨n, rt, b, c⟩ σ (.ref a) H :=
  ⟨a, rfl, ⟨xs, h⟩, for_tup (D := ⟨n, rt, b, c⟩) Pv h0 hl hs hd⟩
def ForR (lo hi : Int) (g : TG) (tb : TS) (D : Ends) (σ : L2.St) (H : Hp) : Prop := ∃ W : Nat → Nat → L2.St → Hp → Prop, (∃ m, W 0 m σ H) ∧ ∀ i m σ H, W i m σ H →
  ((Itr lo (hi - lo).toNat).stop i H ∧ D.nx σ H) ∨ ((Itr lo (hi - lo).toNat).go i H ∧ ∃ N : L2.St → Hp → Prop, (∀ σ' H', N σ' H' → ∃ m', m' < m ∧ W (i + 1) m' σ' H') ∧ ∀ x H', (Itr lo (hi - lo).toNat).yld i H x H' → g x σ H' fun σ2 H2 => tb { D with nx := N, ct := N, bk := D.nx } σ2 H2)
def Rg1 (vs : List V) (H : Hp) (P : Int → Hp → Prop) : Prop := ∃ j : Int, vs = [.int j] ∧ -(2 ^ 62) ≤ j ∧ j < 2 ^ 62 ∧ P j H
def Rg2 (vs : List V) (H : Hp) (P : Int → Int → Hp → Prop) : Prop := ∃ i j : Int, vs = [.int i, .int j] ∧ (-(2 ^ 62) ≤ i ∧ i < 2 ^ 62 ∧ -(2 ^ 62) ≤ j ∧ j < 2 ^ 62) ∧ P i j H
theorem x_Rg1 {j : Int} {P : Int → Hp → Prop} (h1 : -(2 ^ 62) ≤ j) (h2 : j < 2 ^ 62) (k : P j H) : Rg1 [.int j] H P := ⟨j, rfl, h1, h2, k⟩
theorem x_Rg2 {i j : Int} {P : Int → Int → Hp → Prop} (h1 : -(2 ^ 62) ≤ i) (h2 : i < 2 ^ 62) (h3 : -(2 ^ 62) ≤ j) (h4 : j < 2 ^ 62) (k : P i j H) : Rg2 [.int i, .int j] H P := ⟨i, j, rfl, ⟨h1, h2, h3, h4⟩, k⟩
theorem x_forR1 (h : taa σ H fun vs H1 => Rg1 vs H1 fun j H1 => ForR 0 j g ts D σ H1) : tFor (iRng1 taa) g ts D σ H := by
  have e : tFor (iRng1 taa) g ts D σ H = (taa σ H fun vs H1 => ∃ j : Int, vs = [.int j] ∧ -(2 ^ 62) ≤ j ∧ j < 2 ^ 62 ∧ ForR 0 j g ts D σ H1) := by
    unfold tFor iRng1 ForR
    simp only [Int.sub_zero]
  rw [e]; exact h
theorem x_forR2 (h : taa σ H fun vs H1 => Rg2 vs H1 fun i j H1 => ForR i j g ts D σ H1) : tFor (iRng2 taa) g ts D σ H := h
theorem x_ForR {lo hi : Int} {m : Nat} (hm : hi = lo + (m : Int)) (Pv : Nat → L2.St → Hp → Prop) (h0 : Pv 0 σ H)
    (hs : ∀ (i : Nat) σ H, i < m → Pv i σ H → g (.int (lo + (i : Int))) σ H fun σ2 H2 => ts ⟨Pv (i + 1), rt, n, Pv (i + 1)⟩ σ2 H2) (hd : ∀ σ H, Pv m σ H → n σ H) : ForR lo hi g ts ⟨n, rt, b, c⟩ σ H := by
  have e : (hi - lo).toNat = m := by omega
  unfold ForR
  rw [e]
  exact for_range (D := ⟨n, rt, b, c⟩) Pv h0 hs hd
/-- a while's turn behind its test -/
def WhB (W : Nat → L2.St → Hp → Prop) (m : Nat) (tb : TS) (D : Ends) (σ : L2.St) (b : Bool) (H : Hp) : Prop := if b = true then ∃ N : L2.St → Hp → Prop, (∀ σ' H', N σ' H' → ∃ m', m' < m ∧ W m' σ' H') ∧ tb { D with nx := N, ct := N, bk := D.nx } σ H else D.nx σ H
theorem x_while (W : Nat → L2.St → Hp → Prop) (m : Nat) (h0 : W m σ H) (k : ∀ m σ H, W m σ H → t σ H fun b H1 => WhB W m ts D σ b H1) : tWhile t ts D σ H := ⟨W, ⟨m, h0⟩, k⟩
theorem x_whT {W : Nat → L2.St → Hp → Prop} {m : Nat} (k : ts ⟨fun σ' H' => ∃ m', m' < m ∧ W m' σ' H', rt, n, fun σ' H' => ∃ m', m' < m ∧ W m' σ' H'⟩ σ H) : WhB W m ts ⟨n, rt, b, c⟩ σ true H := by
  unfold WhB
  rw [if_pos rfl]
  exact ⟨_, fun _ _ h => h, k⟩
theorem x_whF {W : Nat → L2.St → Hp → Prop} {m : Nat} (k : n σ H) : WhB W m ts ⟨n, rt, b, c⟩ σ false H := by
  unfold WhB
  rw [if_neg Bool.false_ne_true]
  exact k

/-! comprehensions -/
/-- the item goes behind the list at D, then N -/
def App (D : Addr) (N : Hp → Prop) (y : V) (H : Hp) : Prop := ∃ acc, H D = some (.lst acc) ∧ acc.length < sizeLine ∧ N (upd H D (.lst (acc ++ [y])))
theorem x_App {D : Addr} {N : Hp → Prop} {acc : List V} (h : H D = some (.lst acc)) (hl : acc.length < sizeLine) (k : ∀ H2, Chg H H2 D (.lst (acc ++ [y])) → N H2) : App D N y H := ⟨acc, h, hl, k _ Chg.of⟩
/-- behind a comprehension's target: its tests, its element -/
def LcT (tt : TT) (te : TE) (vs : List Nat) (σ : L2.St) (D : Addr) (N : Hp → Prop) (σ2 : L2.St) (H : Hp) : Prop := wipe σ2 vs = wipe σ vs ∧ tt σ2 H fun b H3 => if b = true then te σ2 H3 fun y H4 => App D N y H4 else N H3
theorem x_LcT {D : Addr} {N : Hp → Prop} {vs : List Nat} {σ2 : L2.St} (hw : wipe σ2 vs = wipe σ vs) (k : t σ2 H fun b H3 => if b = true then te σ2 H3 fun y H4 => App D N y H4 else N H3) : LcT t te vs σ D N σ2 H := ⟨hw, k⟩
theorem x_LcY {D : Addr} {N : Hp → Prop} {vs : List Nat} {σ2 : L2.St} (hw : wipe σ2 vs = wipe σ vs) (k : te σ2 H fun y H4 => App D N y H4) : LcT tYes te vs σ D N σ2 H := ⟨hw, by
  show (if true = true then te σ2 H (fun y H4 => App D N y H4) else N H)
  rw [if_pos rfl]
  exact k⟩
def LcA (J : V → Hp → (It → Hp → Prop) → Prop) (g : TG) (tt : TT) (te : TE) (vs : List Nat) (σ : L2.St) (x : V) (H : Hp) (Q : VK) : Prop := J x H fun J H1 => ∀ D, H1 D = none → ∃ W : Nat → Nat → Hp → Prop, (∃ m, W 0 m (upd H1 D (.lst []))) ∧ ∀ i m H, W i m H →
  (J.stop i H ∧ Q (.ref D) H) ∨ (J.go i H ∧ ∃ Nx : Hp → Prop, (∀ H', Nx H' → ∃ m', m' < m ∧ W (i + 1) m' H') ∧ ∀ x H', J.yld i H x H' → g x (wipe σ vs) H' fun σ2 H2 => wipe σ2 vs = wipe σ vs ∧ tt σ2 H2 fun b H3 =>
    if b = true then te σ2 H3 fun y H4 => ∃ acc, H4 D = some (.lst acc) ∧ acc.length < sizeLine ∧ Nx (upd H4 D (.lst (acc ++ [y]))) else Nx H3)
theorem x_lcL {vs : List Nat} (k : ta σ H fun x H1 => LcA (jL K) g t te vs σ x H1 Q) : tLc (iList K ta) g t te vs σ H Q := k
theorem x_lcT {vs : List Nat} (k : ta σ H fun x H1 => LcA (jT K) g t te vs σ x H1 Q) : tLc (iTup K ta) g t te vs σ H Q := k
theorem x_LcL {a : Addr} {xs : List V} {vs : List Nat} (h : SqL K H a xs) (Pv : Addr → Nat → Hp → Prop) (h0 : ∀ D H', New H H' D (.lst []) → Pv D 0 H') (hl : ∀ D i H, i ≤ xs.length → Pv D i H → SqL K H a xs)
    (hs : ∀ D i x H, xs[i]? = some x → Pv D i H → g x (wipe σ vs) H fun σ2 H2 => LcT t te vs σ D (Pv D (i + 1)) σ2 H2) (hd : ∀ D H, Pv D xs.length H → Q (.ref D) H) : LcA (jL K) g t te vs σ (.ref a) H Q :=
  ⟨a, rfl, ⟨xs, h⟩, fun D hD => lc_list (Pv D) (h0 D _ (New.of hD)) (hl D) (hs D) (hd D)⟩
theorem x_LcTu {a : Addr} {xs : List V} {vs : List Nat} (h : SqT K H a xs) (Pv : Addr → Nat → Hp → Prop) (h0 : ∀ D H', New H H' D (.lst []) → Pv D 0 H') (hl : ∀ D i H, i ≤ xs.length → Pv D i H → SqT K H a xs)
    (hs : ∀ D i x H, xs[i]? = some x → Pv D i H → g x (wipe σ vs) H fun σ2 H2 => LcT t te vs σ D (Pv D (i + 1)) σ2 H2) (hd : ∀ D H, Pv D xs.length H → Q (.ref D) H) : LcA (jT K) g t te vs σ (.ref a) H Q :=
  ⟨a, rfl, ⟨xs, h⟩, fun D hD => lc_tup (Pv D) (h0 D _ (New.of hD)) (hl D) (hs D) (hd D)⟩
def LcR (lo hi : Int) (g : TG) (tt : TT) (te : TE) (vs : List Nat) (σ : L2.St) (H : Hp) (Q : VK) : Prop := ∀ D, H D = none → ∃ W : Nat → Nat → Hp → Prop, (∃ m, W 0 m (upd H D (.lst []))) ∧ ∀ i m H, W i m H →
  ((Itr lo (hi - lo).toNat).stop i H ∧ Q (.ref D) H) ∨ ((Itr lo (hi - lo).toNat).go i H ∧ ∃ Nx : Hp → Prop, (∀ H', Nx H' → ∃ m', m' < m ∧ W (i + 1) m' H') ∧ ∀ x H', (Itr lo (hi - lo).toNat).yld i H x H' → g x (wipe σ vs) H' fun σ2 H2 => wipe σ2 vs = wipe σ vs ∧ tt σ2 H2 fun b H3 =>
    if b = true then te σ2 H3 fun y H4 => ∃ acc, H4 D = some (.lst acc) ∧ acc.length < sizeLine ∧ Nx (upd H4 D (.lst (acc ++ [y]))) else Nx H3)
theorem x_lcR1 {vs : List Nat} (h : taa σ H fun zs H1 => Rg1 zs H1 fun j H1 => LcR 0 j g t te vs σ H1 Q) : tLc (iRng1 taa) g t te vs σ H Q := by
  have e : tLc (iRng1 taa) g t te vs σ H Q = (taa σ H fun zs H1 => ∃ j : Int, zs = [.int j] ∧ -(2 ^ 62) ≤ j ∧ j < 2 ^ 62 ∧ LcR 0 j g t te vs σ H1 Q) := by
    unfold tLc iRng1 LcR
    simp only [Int.sub_zero]
  rw [e]; exact h
theorem x_lcR2 {vs : List Nat} (h : taa σ H fun zs H1 => Rg2 zs H1 fun i j H1 => LcR i j g t te vs σ H1 Q) : tLc (iRng2 taa) g t te vs σ H Q := h
theorem x_LcR {lo hi : Int} {m : Nat} {vs : List Nat} (hm : hi = lo + (m : Int)) (Pv : Addr → Nat → Hp → Prop) (h0 : ∀ D H', New H H' D (.lst []) → Pv D 0 H')
    (hs : ∀ D (i : Nat) H, i < m → Pv D i H → g (.int (lo + (i : Int))) (wipe σ vs) H fun σ2 H2 => LcT t te vs σ D (Pv D (i + 1)) σ2 H2) (hd : ∀ D H, Pv D m H → Q (.ref D) H) : LcR lo hi g t te vs σ H Q := by
  have e : (hi - lo).toNat = m := by omega
  unfold LcR
  rw [e]
  exact fun D hD => lc_range (Pv D) (h0 D _ (New.of hD)) (hs D) (hd D)
/-! comprehensions that make new objects alone -/
theorem x_LcLs {a : Addr} {xs : List V} {vs : List Nat} (h : H a = some (.lst xs)) (out : Nat → List V) (o0 : out 0 = [])
    (hs : ∀ D i x H', xs[i]? = some x → H D = none → H' D = some (.lst (out i)) → Same H H' → g x (wipe σ vs) H' fun σ2 H2 => LcT t te vs σ D (fun H3 => H3 D = some (.lst (out (i + 1))) ∧ Same H H3) σ2 H2)
    (hd : ∀ D H', New H H' D (.lst (out xs.length)) → Q (.ref D) H') : LcA (jL K) g t te vs σ (.ref a) H Q :=
  x_LcL (SqL.of h) (fun D i H' => H D = none ∧ H' D = some (.lst (out i)) ∧ Same H H') (fun D H' n => ⟨n.fresh, by rw [o0]; exact n.at_, n.same⟩) (fun D i H' _ ⟨_, _, s⟩ => SqL.of (s _ _ h))
    (fun D i x H' hx ⟨n, hD, s⟩ => by
      have e : (fun H3 : Hp => H D = none ∧ H3 D = some (.lst (out (i + 1))) ∧ Same H H3) = fun H3 => H3 D = some (.lst (out (i + 1))) ∧ Same H H3 := by funext H3; simp [n]
      rw [e]; exact hs D i x H' hx n hD s) (fun D H' ⟨n, hD, s⟩ => hd D H' ⟨s, hD, n⟩)
theorem x_LcTs {a : Addr} {xs : List V} {vs : List Nat} (h : H a = some (.tup xs)) (out : Nat → List V) (o0 : out 0 = [])
    (hs : ∀ D i x H', xs[i]? = some x → H D = none → H' D = some (.lst (out i)) → Same H H' → g x (wipe σ vs) H' fun σ2 H2 => LcT t te vs σ D (fun H3 => H3 D = some (.lst (out (i + 1))) ∧ Same H H3) σ2 H2)
    (hd : ∀ D H', New H H' D (.lst (out xs.length)) → Q (.ref D) H') : LcA (jT K) g t te vs σ (.ref a) H Q :=
  x_LcTu (SqT.of h) (fun D i H' => H D = none ∧ H' D = some (.lst (out i)) ∧ Same H H') (fun D H' n => ⟨n.fresh, by rw [o0]; exact n.at_, n.same⟩) (fun D i H' _ ⟨_, _, s⟩ => SqT.of (s _ _ h))
    (fun D i x H' hx ⟨n, hD, s⟩ => by
      have e : (fun H3 : Hp => H D = none ∧ H3 D = some (.lst (out (i + 1))) ∧ Same H H3) = fun H3 => H3 D = some (.lst (out (i + 1))) ∧ Same H H3 := by funext H3; simp [n]
      rw [e]; exact hs D i x H' hx n hD s) (fun D H' ⟨n, hD, s⟩ => hd D H' ⟨s, hD, n⟩)
theorem x_LcRs {lo hi : Int} {m : Nat} {vs : List Nat} (hm : hi = lo + (m : Int)) (out : Nat → List V) (o0 : out 0 = [])
    (hs : ∀ D (i : Nat) H', i < m → H D = none → H' D = some (.lst (out i)) → Same H H' → g (.int (lo + (i : Int))) (wipe σ vs) H' fun σ2 H2 => LcT t te vs σ D (fun H3 => H3 D = some (.lst (out (i + 1))) ∧ Same H H3) σ2 H2)
    (hd : ∀ D H', New H H' D (.lst (out m)) → Q (.ref D) H') : LcR lo hi g t te vs σ H Q :=
  x_LcR hm (fun D i H' => H D = none ∧ H' D = some (.lst (out i)) ∧ Same H H') (fun D H' n => ⟨n.fresh, by rw [o0]; exact n.at_, n.same⟩)
    (fun D i H' hx ⟨n, hD, s⟩ => by
      have e : (fun H3 : Hp => H D = none ∧ H3 D = some (.lst (out (i + 1))) ∧ Same H H3) = fun H3 => H3 D = some (.lst (out (i + 1))) ∧ Same H H3 := by funext H3; simp [n]
      rw [e]; exact hs D i H' hx n hD s) (fun D H' ⟨n, hD, s⟩ => hd D H' ⟨s, hD, n⟩)
theorem x_AppS {H0 : Hp} {D : Addr} {acc out : List V} (n : H0 D = none) (s : Same H0 H) (h : H D = some (.lst acc)) (hl : acc.length < sizeLine) (e : out = acc ++ [y]) : App D (fun H3 => H3 D = some (.lst out) ∧ Same H0 H3) y H :=
  x_App h hl fun H2 c => ⟨by rw [e]; exact c.at_, Same.chg s n c⟩
end
section
variable {X : Cx}
/-- a text, so many times -/
def rMulA : R2 := fun x y H Q => ∃ (z : Str) (i : Int), x = .str z ∧ y = .int i ∧ PySem.MulOk z i ∧ Q (.str (Txt.mul z i)) H
theorem k_mulS : OpR X (binaryOp .Mult) rMulA := by
  intro pins s σ H x y v u Q I rx ry h
  obtain ⟨z, i, rfl, rfl, ok, q⟩ := h
  obtain ⟨t, rfl⟩ := rx
  obtain ⟨t2, rfl⟩ := ry
  exact PySem.SB.mul ok fun t' k => ⟨.str _, H, I.tok k, ⟨t', rfl⟩, q⟩
theorem x_mulS {z : Str} {i : Int} {H : Hp} {Q : VK} (ok : PySem.MulOk z i) (k : Q (.str (Txt.mul z i)) H) : rMulA (.str z) (.int i) H Q := ⟨z, i, rfl, rfl, ok, k⟩
theorem k_len : CallR X (.builtin "len") (rLenK X.K) := call_len_seq
theorem k_int : CallR X (.type "int") rIntK := call_int1
theorem k_min2 (hc : X.calm = true) : CallR X (.builtin "min") rMin2K := call_min2 hc
theorem k_max2 (hc : X.calm = true) : CallR X (.builtin "max") rMax2K := call_max2 hc
/-- lists joined, repeated, copied -/
def rCatK : R2 := fun x y H Q => ∃ l b xs zs, x = .ref l ∧ y = .ref b ∧ H l = some (.lst xs) ∧ H b = some (.lst zs) ∧ xs.length + zs.length ≤ sizeLine ∧ AlO (.lst (xs ++ zs)) H Q
theorem k_cat : OpR X (binaryOp .Add) rCatK := op_cat
theorem x_cat {l b : Addr} {xs zs : List V} {H : Hp} {Q : VK} (h1 : H l = some (.lst xs)) (h2 : H b = some (.lst zs)) (hz : xs.length + zs.length ≤ sizeLine) (k : ∀ p H2, New H H2 p (.lst (xs ++ zs)) → Q (.ref p) H2) : rCatK (.ref l) (.ref b) H Q :=
  ⟨l, b, xs, zs, rfl, rfl, h1, h2, hz, x_AlO k⟩
end

/-! ### the same with the written part told (within a comprehension's block) -/
section
variable {X : Cx} {K : PySem.W.Frag}
theorem b_ixL (e : X.K = K) : IxR X (rIxL K) := by subst e; exact ix_list
theorem b_ixT (e : X.K = K) : IxR X (rIxT K) := by subst e; exact ix_tup
theorem b_in (e : X.K = K) : OpR X (compareOp .In) (rIn K false) := by subst e; exact op_in_seq
theorem b_notIn (e : X.K = K) : OpR X (compareOp .NotIn) (rIn K true) := by subst e; exact op_notIn_seq
theorem b_len (e : X.K = K) : CallR X (.builtin "len") (rLenK K) := by subst e; exact k_len
theorem b_index (e : X.K = K) : MtR X "list.index" (rIndex K) := by subst e; exact mt_index
theorem b_gtup {pos : Pos} {k n : Nat} (e : X.K = K) {es : List Expr} {t : TGs} (hc : X.calm = true) (h : PGs X es t) (hn : (assignEach es X.env).length = n := by rfl) (hst : (assignEach es X.env).findIdx? (·.1) = none := by rfl) : PG X (.Tuple es k pos) (gTup K n t) := by subst e; exact pg_tup hc h hn hst
theorem b_bm {T : String} {name : Str} {id : String} {o e : Expr} {es : List Expr} {apos cpos : Pos} {r : V → List V → Hp → VK → Prop} {to : TE} {t : TA} (q : X.K = K) (pa : PlainAttrs T) (slot : Slot T name id) (hty : typeOf (.builtin id) = pure (.type "method_descriptor")) (hm : MtR X id r) (ho : PE X o to) (ha : PA X (e :: es) t)
    (hbase : attributeBase o name X.env (eval o X.env) = eval o X.env := by rfl)
    (hfew : ((backTo cpos (starEach (e :: es) X.env)).all (fun x => !x.1) && (backToKw cpos (keywordEach [] X.env)).all (fun x => x.1.isSome)
      && decide ((e :: es).length + ([] : List Keyword).length + (if ([] : List Keyword).isEmpty then 0 else 1) < 30)) = true := by rfl)
    (hline : (apos.endLine == cpos.line) = true := by rfl) (hs : starEach (e :: es) X.env = (false, eval e X.env) :: starEach es X.env := by rfl) (hplain : (backTo cpos (starEach es X.env)).any (·.1) = false := by rfl) :
    PE X (.Call (.Attribute o name apos) (e :: es) [] cpos) (tBM K T r to t) := by subst q; exact pe_bm pa slot hty hm ho ha hbase hfew hline hs hplain
theorem b_fld {e : Expr} {f : Str} {pos : Pos} {ta : TE} (q : X.K = K) (he : PE X e ta) (hb : attributeBase e f X.env (eval e X.env) = eval e X.env) : PE X (.Attribute e f pos) (tFld K ta f) := by subst q; exact pe_fld he hb
theorem b_tupleOf {a : Expr} {ta : TE} {p pos : Pos} (e : X.K = K) (hg : Gl X "tuple") (hm : X.mg "tuple" = none) (ha : PE X a ta) (na : starEach [a] X.env = (false, eval a X.env) :: starEach [] X.env := by rfl) :
    PE X (.Call (.Name "tuple" p) [a] [] pos) (tThen ta (kTup K)) := by subst e; exact pe_tupleOf hg hm ha na
end

/-! ### what the walk asks of the module's names -/
structure Gm (K : PySem.W.Frag) (mg : Str → Option Value) : Prop where
  len : mg "len" = none
  range : mg "range" = none
  all : mg "all" = none
  list : mg "list" = none
  tuple : mg "tuple" = none
  max : mg "max" = none
  min : mg "min" = none
  int : mg "int" = none
  enumerate : mg "enumerate" = none
  isinstance : mg "isinstance" = none
  MOST_LINES : ∃ u, mg "MOST_LINES" = some u ∧ RelV (.int 8) u
  MOST_VALUE : ∃ u, mg "MOST_VALUE" = some u ∧ RelV (.int 5) u
  MOST_RUNS : ∃ u, mg "MOST_RUNS" = some u ∧ RelV (.int 1000) u
  LETTERS : ∃ u, mg "LETTERS" = some u ∧ RelV (.str "abcdefghijklmnopqrstuvwxyz") u

theorem cxK {CX : CXT} {P : Program} {w : World} {K : PySem.W.Frag} {mg : Str → Option Value} {base : Heap} {N : List Str} {qual : Str} {scope : Scope} {f : Addr} {cd : Value} {A : Around} {outer : List Env} {s : Shared} {H : Hp} {E : XK} :
    (cxOf CX P w K mg base N qual scope f cd A outer s H E).nox.K = K := rfl
theorem cxK2 {CX : CXT} {P : Program} {w : World} {K : PySem.W.Frag} {mg : Str → Option Value} {base : Heap} {N : List Str} {qual : Str} {scope : Scope} {f : Addr} {cd : Value} {A : Around} {outer : List Env} {s : Shared} {H : Hp} {E : XK} :
    (cxOf CX P w K mg base N qual scope f cd A outer s H E).K = K := rfl
theorem cxP {CX : CXT} {P : Program} {w : World} {K : PySem.W.Frag} {mg : Str → Option Value} {base : Heap} {N : List Str} {qual : Str} {scope : Scope} {f : Addr} {cd : Value} {A : Around} {outer : List Env} {s : Shared} {H : Hp} {E : XK} : (cxOf CX P w K mg base N qual scope f cd A outer s H E).prog = P := rfl
theorem cxW {CX : CXT} {P : Program} {w : World} {K : PySem.W.Frag} {mg : Str → Option Value} {base : Heap} {N : List Str} {qual : Str} {scope : Scope} {f : Addr} {cd : Value} {A : Around} {outer : List Env} {s : Shared} {H : Hp} {E : XK} : (cxOf CX P w K mg base N qual scope f cd A outer s H E).w = w := rfl
theorem cxPn {CX : CXT} {P : Program} {w : World} {K : PySem.W.Frag} {mg : Str → Option Value} {base : Heap} {N : List Str} {qual : Str} {scope : Scope} {f : Addr} {cd : Value} {A : Around} {outer : List Env} {s : Shared} {H : Hp} {E : XK} : (cxOf CX P w K mg base N qual scope f cd A outer s H E).nox.prog = P := rfl
theorem cxWn {CX : CXT} {P : Program} {w : World} {K : PySem.W.Frag} {mg : Str → Option Value} {base : Heap} {N : List Str} {qual : Str} {scope : Scope} {f : Addr} {cd : Value} {A : Around} {outer : List Env} {s : Shared} {H : Hp} {E : XK} : (cxOf CX P w K mg base N qual scope f cd A outer s H E).nox.w = w := rfl
theorem At.h {S : Addr → Prop} {H : Hp} {a : Addr} {o : HO} (h : At S H a o) : H a = some o := h.1
theorem At.up {S : Addr → Prop} {H H' : Hp} {a : Addr} {o : HO} (h : At S H a o) (k : Kp S H H') : At S H' a o := k.upS h
/-! ### the pen: a list of numbers at l, and how often was drawn -/
structure Pen (H : Hp) (p l : Addr) (B : Int) : Prop where
  ex : ∃ (ns : List Int) (spot : Int), H p = some (.lst [.ref l, .int spot]) ∧ H l = some (.lst (ns.map V.int)) ∧ 0 < ns.length ∧ ns.length ≤ 1000 ∧ 0 ≤ spot ∧ spot ≤ B
  ne : p ≠ l
def Pn (p l : Addr) : Addr → Prop := fun a => a = p ∨ a = l
theorem Pen.up {H H' : Hp} {p l : Addr} {B : Int} {S : Addr → Prop} (h : Pen H p l B) (k : Kp S H H') (np : ¬ S p) (nl : ¬ S l) : Pen H' p l B := by
  obtain ⟨⟨ns, spot, h1, h2, h3⟩, ne⟩ := h
  exact ⟨⟨ns, spot, k _ _ np h1, k _ _ nl h2, h3⟩, ne⟩
theorem Pen.same {H H' : Hp} {p l : Addr} {B : Int} (h : Pen H p l B) (s : Same H H') : Pen H' p l B := h.up (Kp.same (S := No) s) id id
theorem Pen.new {H H' : Hp} {p l q : Addr} {B : Int} {o : HO} (h : Pen H p l B) (n : New H H' q o) : Pen H' p l B := h.same n.same
theorem Pen.chg {H H' : Hp} {p l q : Addr} {B : Int} {o : HO} (h : Pen H p l B) (c : Chg H H' q o) (np : q ≠ p) (nl : q ≠ l) : Pen H' p l B := h.up (S := fun a => a = q) (c.kpS rfl) np.symm nl.symm
theorem Pen.mono {H : Hp} {p l : Addr} {B B' : Int} (h : Pen H p l B) (hb : B ≤ B') : Pen H p l B' := by
  obtain ⟨⟨ns, spot, h1, h2, h3, h4, h5, h6⟩, ne⟩ := h
  exact ⟨⟨ns, spot, h1, h2, h3, h4, h5, Int.le_trans h6 hb⟩, ne⟩
theorem Pen.newp {H H' : Hp} {p l q : Addr} {B : Int} {o : HO} (h : Pen H p l B) (n : New H H' q o) : q ≠ p ∧ q ≠ l := by
  obtain ⟨⟨ns, spot, h1, h2, _⟩, _⟩ := h
  exact ⟨n.ne h1, n.ne h2⟩
theorem Pen.fresh {H : Hp} {p l q : Addr} {B : Int} (h : Pen H p l B) (n : H q = none) : q ≠ p ∧ q ≠ l := by
  obtain ⟨⟨ns, spot, h1, h2, _⟩, _⟩ := h
  exact ⟨fun e => (by rw [e, h1] at n; cases n), fun e => (by rw [e, h2] at n; cases n)⟩

theorem Kp.chg {S : Addr → Prop} {H0 H H' : Hp} {l : Addr} {o : HO} (k : Kp S H0 H) (n : H0 l = none) (c : Chg H H' l o) : Kp S H0 H' := fun b u ns e => c.kp b u (ne_of_none e n) (k b u ns e)
theorem Kp.new {S : Addr → Prop} {H0 H H' : Hp} {q : Addr} {o : HO} (k : Kp S H0 H) (n : New H H' q o) : Kp S H0 H' := k.trans n.kp
theorem Pen.back {H0 H : Hp} {p l q : Addr} {B : Int} (h : Pen H p l B) (k : Kp (Pn p l) H0 H) (n : H q = none) : H0 q = none := by
  cases e : H0 q with
  | none => rfl
  | some o =>
    obtain ⟨a, b⟩ := h.fresh n
    rw [k q o (fun z => z.elim a b) e] at n
    cases n
theorem Pen.nPn {H : Hp} {p l q : Addr} {B : Int} (h : Pen H p l B) (n : H q = none) : ¬ Pn p l q := fun z => z.elim (h.fresh n).1 (h.fresh n).2
theorem Pen.atN {H H' : Hp} {p l q : Addr} {B : Int} {o : HO} (h : Pen H p l B) (n : New H H' q o) : At (Pn p l) H' q o := ⟨n.at_, h.nPn n.fresh⟩
theorem x_ixS {z : Str} {i : Int} {c : Nat} {H : Hp} {Q : VK} (hl : z.length ≤ sizeLine) (ha : atI z.cps.toList i = some c) (k : Q (.str ⟨#[c]⟩) H) : rIxS (.str z) (.int i) H Q := ⟨z, i, c, rfl, rfl, hl, ha, k⟩

/-! ### a def of the module by its body -/
section
variable {P : Program} {w : World} {K : PySem.W.Frag} {mg : Str → Option Value} {base : Heap}
theorem calN {x : Str} {st : Stmt} {f : Addr} {fd : FuncData} {N ps : List Str} {k : Nat} {sp : Sp} (F : L2.Fun K x x st f fd) (m : mg x = some (.ref f)) (b : Binds K fd ps []) (S : FnScope N ps (defScope st)) (len : ∀ vs H Q E, sp vs H Q E → vs.length = ps.length)
    (hbody : ∀ (cdv : Value) (A : Around) (outer : List Env) (s : Shared) (H : Hp) (vs : List V) (Q : VK) (E : XK), Room k (A.deeper (envOfC x (defScope st) s.heap.objs.size f cdv)) → sp vs H Q E →
      ∃ t, PSs (cxOf L2.CX0 P w K mg base N x (defScope st) f cdv A outer s H E).nox (defBody st) t ∧ t ⟨fun _ H' => Q .non H', Q, fun _ _ => False, fun _ _ => False⟩ (start N vs) H) : C8.Cal P w K mg base (k + 1) x sp [] :=
  ⟨f, fd, ps, [], F.ok S len hbody, m, F.kp, b, .nil⟩
end
end
end K21
end

section
set_option maxRecDepth 100000
set_option maxHeartbeats 0
/-! The head: what the top leaves, by facts; one run in the kernel. -/
namespace K21
open PySem PySem.W PySem.Calls PyProof.Rows L2
noncomputable section
/-! ### my hook: facts, defs at any address, tables with text keys, one more Bool -/
abbrev AlK : Type := (Bool × List He5.FnW) × List (Option (List (Option (Str × Int))))
def obsK (fa : List He.Fa) (fn : List He5.DefA) (ts : List He.Tab) (ex : PySem.W.Frag → Bool) (K : PySem.W.Frag) : AlK :=
  (((fa.all fun f => f.ok K) && ((fn.all fun d => d.ok K) && ex K), fn.map fun d => He5.fnA K (d.at_ K)), ts.map fun t => He.dicW K (t.1 K))
def valK (fn : List He5.DefA) (ts : List He.Tab) (w : World) : AlK := ((true, fn.map He5.DefA.val), ts.map fun t => some (He.keysIn w.params t.2))
def SaysK (fa : List He.Fa) (fn : List He5.DefA) (ts : List He.Tab) (ex : PySem.W.Frag → Bool) (w : World) (K : PySem.W.Frag) : Prop := obsK fa fn ts ex K = valK fn ts w
/-- every address below n, the last first -/
def adrs : Nat → List Addr
  | 0 => []
  | n + 1 => n :: adrs n
def obsKG (fa : List He.Fa) (fn : List He5.DefA) (ts : List He.Tab) (ex : PySem.W.Frag → Bool) (g : Addr → Option Obj) (n : Nat) : AlK := obsK fa fn ts ex (He.frG g (adrs n))
def hookK (fa : List He.Fa) (fn : List He5.DefA) (ts : List He.Tab) (ex : PySem.W.Frag → Bool) : PySem.W.Hook where
  α := AlK
  obs := fun s => obsKG fa fn ts ex s.heap.get? s.heap.objs.size
  val := fun w => valK fn ts w
  says := fun w h => ∃ K : PySem.W.Frag, K.In h ∧ SaysK fa fn ts ex w K
  of := fun _ _ e => ⟨_, He.frG_in, e⟩
  keeps := fun _ _ _ ⟨K, hK, c⟩ k => ⟨K, PySem.W.Frag.In.keeps hK k, c⟩
theorem obsKG_eq {fa : List He.Fa} {fn : List He5.DefA} {ts : List He.Tab} {ex : PySem.W.Frag → Bool} {g : Addr → Option Obj} {n : Nat} {s : Shared} (h : ∀ a, g a = s.heap.get? a) (hn : n = s.heap.objs.size) : obsKG fa fn ts ex g n = (hookK fa fn ts ex).obs s := by
  have e : g = s.heap.get? := funext h
  rw [e, hn] <;> rfl
section
variable {fa : List He.Fa} {fn : List He5.DefA} {ts : List He.Tab} {ex : PySem.W.Frag → Bool} {w : World} {K : PySem.W.Frag}
theorem SaysK.facts (c : SaysK fa fn ts ex w K) (i : Nat) {f : He.Fa} (h : fa[i]? = some f := by rfl) : f.ok K = true := by
  have c1 := (He.ba (show ((fa.all fun f => f.ok K) && ((fn.all fun d => d.ok K) && ex K)) = true from congrArg (fun z : AlK => z.1.1) c)).1
  exact List.all_eq_true.mp c1 f (List.mem_of_getElem? h)
theorem SaysK.exB (c : SaysK fa fn ts ex w K) : ex K = true :=
  (He.ba (He.ba (show ((fa.all fun f => f.ok K) && ((fn.all fun d => d.ok K) && ex K)) = true from congrArg (fun z : AlK => z.1.1) c)).2).2
theorem SaysK.defs (c : SaysK fa fn ts ex w K) (i : Nat) {d : He5.DefA} (h : fn[i]? = some d := by rfl) : ∃ fd, L2.FunD K d.name d.qual d.params d.body d.scope (d.dvs K) (d.kws K) (d.at_ K) fd := by
  have c2 := (He.ba (He.ba (show ((fa.all fun f => f.ok K) && ((fn.all fun d => d.ok K) && ex K)) = true from congrArg (fun z : AlK => z.1.1) c)).2).1
  have e : fn.map (fun d => He5.fnA K (d.at_ K)) = fn.map He5.DefA.val := congrArg (fun z : AlK => z.1.2) c
  have e2 : (fn.map fun d => He5.fnA K (d.at_ K))[i]? = (fn.map He5.DefA.val)[i]? := by rw [e]
  rw [List.getElem?_map, List.getElem?_map, h] at e2
  exact He5.DefA.funD (Option.some.inj e2) (List.all_eq_true.mp c2 d (List.mem_of_getElem? h))
theorem SaysK.tab (c : SaysK fa fn ts ex w K) (i : Nat) {t : He.Tab} (h : ts[i]? = some t := by rfl) : ∃ es n, KDict K w (t.1 K) es n := by
  have e : ts.map (fun t => He.dicW K (t.1 K)) = ts.map fun t => some (He.keysIn w.params t.2) := congrArg (fun z : AlK => z.2) c
  have e2 : (ts.map fun t => He.dicW K (t.1 K))[i]? = (ts.map fun t => some (He.keysIn w.params t.2))[i]? := by rw [e]
  rw [List.getElem?_map, List.getElem?_map, h] at e2
  exact He.dicW_ok (Option.some.inj e2)
end

/-! ### this top -/
def dF (x : Str) (i : Nat) : He5.DefA := ⟨fun K => He.ga K x, x, x, defArgs (topS i), defBody (topS i), defScope (topS i), [], []⟩
def dM (C m q : Str) (i j : Nat) : He5.DefA := ⟨fun K => He.ma K (He.ga K C) m, m, q, defArgs (inC i j), defBody (inC i j), defScope (inC i j), [], []⟩
def dCompiled : He5.DefA := ⟨fun K => He.ga K "compiled", "compiled", "compiled", defArgs (topS 32), defBody (topS 32), defScope (topS 32), [.adr (He.dflAt ("compiled", none) 0)], []⟩
def dRowInit : He5.DefA := ⟨fun K => He.ma K (He.ga K "Row") "__init__", "__init__", "Row.__init__", defArgs (inC 46 0), defBody (inC 46 0), defScope (inC 46 0), [.adr (He.dflAt ("Row", some "__init__") 0), .adr (He.dflAt ("Row", some "__init__") 1)], []⟩
def dOfRuns : He5.DefA := ⟨fun K => He5.wf K (He.ga K "Row") "classmethod" "of_runs", "of_runs", "Row.of_runs", defArgs (inC 46 1), defBody (inC 46 1), defScope (inC 46 1), [], []⟩
def fns : List He5.DefA := [dF "fits_name" 19, dF "fits_ways" 20, dF "fits_line" 21, dF "tidy_line" 22, dF "targets_of" 23, dF "check_lines" 24, dF "silent_ways" 25, dF "reached" 26, dF "check_ways" 27,
  dM "Reader" "__init__" "Reader.__init__" 28 0, dM "Reader" "names" "Reader.names" 28 2, dM "Machine" "__init__" "Machine.__init__" 30 0, dF "numbered" 31, dCompiled, dF "settle" 33, dF "begin" 34, dF "exit_of" 35, dF "kept_by" 36, dF "step" 37,
  dF "hop" 38, dF "advance" 39, dF "happens" 40, dF "check_cells" 44, dF "merged" 45, dRowInit, dOfRuns, dF "to_row" 47, dM "Pair" "__init__" "Pair.__init__" 49 0, dM "Pair" "first" "Pair.first" 49 1, dM "Pair" "moved" "Pair.moved" 49 2,
  dM "Pair" "unlike" "Pair.unlike" 49 3, dF "first_unlike" 50, dF "parting_place" 51,
  dF "_law_draw" 53, dF "_law_pick" 54, dF "_law_word" 55, dF "_law_names" 56, dF "_law_words" 57, dF "_law_goal" 58, dF "_law_ways" 59, dF "_law_line" 60, dF "_law_lines" 61, dF "_law_near" 62, dF "_law_settle" 63, dF "_law_step" 64, dF "_law_far" 65,
  dF "_law_ten" 66, dF "_law_runs" 67, dF "_law_ahead" 68, dF "_law_book" 69, dF "_law_events" 70, dF "_law_part" 71, dF "law" 72]
def fas : List He.Fa := [.free "len", .free "range", .free "all", .free "list", .free "tuple", .free "max", .free "min", .free "int", .free "enumerate", .free "isinstance",
  .int "MOST_LINES" 8, .int "MOST_VALUE" 5, .int "MOST_RUNS" 1000, .str "LETTERS" "abcdefghijklmnopqrstuvwxyz", .glo "READING", .glo "SIZES", .glo "LEAST", .glo "GREATEST",
  .glo "Reader", .cls "Reader", .noat "Reader" "lines", .meth "Reader" "names", .mkr "Reader",
  .glo "Machine", .cls "Machine", .noat "Machine" "labels", .noat "Machine" "lines", .mkr "Machine",
  .glo "Row", .cls "Row", .noat "Row" "runs", .mkr "Row",
  .glo "Pair", .cls "Pair", .noat "Pair" "machines", .noat "Pair" "states", .meth "Pair" "first", .meth "Pair" "moved", .meth "Pair" "unlike", .mkr "Pair"]
  ++ [.glo "fits_name", .glo "fits_ways", .glo "fits_line", .glo "tidy_line", .glo "targets_of", .glo "check_lines", .glo "silent_ways", .glo "reached", .glo "check_ways", .glo "numbered", .glo "compiled", .glo "settle", .glo "begin", .glo "exit_of",
  .glo "kept_by", .glo "step", .glo "hop", .glo "advance", .glo "happens", .glo "check_cells", .glo "merged", .glo "to_row", .glo "first_unlike", .glo "parting_place"]
  ++ [.glo "_law_draw", .glo "_law_pick", .glo "_law_word", .glo "_law_names", .glo "_law_words", .glo "_law_goal", .glo "_law_ways", .glo "_law_line", .glo "_law_lines", .glo "_law_near", .glo "_law_settle", .glo "_law_step", .glo "_law_far",
  .glo "_law_ten", .glo "_law_runs", .glo "_law_ahead", .glo "_law_book", .glo "_law_events", .glo "_law_part", .glo "law"]
def kSizes : List (Str × He.Dv) := [("case", .int 3), ("take", .int 2), ("rest", .int 3), ("cap", .int 3), ("jump", .int 3), ("set", .int 3), ("upto", .int 4), ("skip", .int 3), ("cut", .int 1), ("refuse", .int 1)]
def kLeast : List (Str × He.Dv) := [("rest", .int 2), ("cap", .int 0), ("jump", .int 1), ("set", .int 0), ("upto", .int 0), ("skip", .int (-3))]
def kGreat : List (Str × He.Dv) := [("rest", .int 4), ("cap", .int 5), ("jump", .int 4), ("set", .int 5), ("upto", .int 5), ("skip", .int 4)]
def tbs : List He.Tab := [(fun K => He.ga K "SIZES", kSizes.map (·.1)), (fun K => He.ga K "LEAST", kLeast.map (·.1)), (fun K => He.ga K "GREATEST", kGreat.map (·.1))]
/-- an empty tuple -/
def tup0 (K : PySem.W.Frag) (a : Addr) : Bool := match K.lookup a with
  | some ⟨.type c, _, .seq its _, _⟩ => decide (c = "tuple") && its.isEmpty
  | _ => false
def insB (K : PySem.W.Frag) (C : Addr) : Bool := He.eqO (PySem.W.findIn K (.ref C) "__class__") (some (some (.builtin "object.__class__"))) && (He.eqO (PySem.W.specialIn K (.builtin "object.__class__") "__get__") (some (some (.builtin "getset_descriptor.__get__"))) &&
  (decide (PySem.W.takesIn K (.builtin "object.__class__") = some true) && (decide (PySem.W.mroIn K C (.type "object") = some true) && decide (PySem.W.kitOne K (.ref C) (.ref C) = some true))))
def exs (K : PySem.W.Frag) : Bool := He.tupB K "READING" [.str "case", .str "take", .str "rest", .str "cap", .str "jump"] && (He.valsB K (He.ga K "SIZES") kSizes && (He.valsB K (He.ga K "LEAST") kLeast && (He.valsB K (He.ga K "GREATEST") kGreat &&
  ((["case", "take", "cut", "refuse"].all fun x => He.eqO (PySem.W.nsIn K (He.ga K "LEAST") x) (some none)) &&
  (tup0 K (He.dflAt ("compiled", none) 0 K) && (insB K (He.ga K "Row") && (He5.wrapB K (He.ga K "Row") "classmethod" "classmethod.__get__" "of_runs" && (PySem.W.fnIn K (He5.wf K (He.ga K "Row") "classmethod" "of_runs") &&
  (PySem.W.readsIn K (He.ga K "Row") (.type "type") && (PySem.W.keepIn K (.ref (He.ga K "Row")) && He.eqO (PySem.W.specialIn K (.ref (He.ga K "Row")) "__getattribute__") (some (some (.builtin "type.__getattribute__")))))))))))))
abbrev R : PySem.W.OpenRow := PySem.W.OpenLaw.row PySem.Challenge.rw_splitalike_k21_whole_far_partings
abbrev hk : PySem.W.Hook := hookK fas fns tbs exs
def ob (s : PySem.W.SharedT) : AlK := obsKG fas fns tbs exs (HandSHeadRun.getT s) s.n
theorem ob_eq (s : PySem.W.SharedT) : ob s = hk.obs s.abs := obsKG_eq (HandSHeadRun.getT_eq s) (PySem.W.absHeap_size s.tree s.n s.life).symm
def n1 : List PySem.Str := ["_wall", "SplitError", "BadReader", "BadRing", "BadBegin", "TooMany", "TooGreat", "BadCell", "BadCount", "NoCell", "LETTERS", "MOST_LINES", "MOST_VALUE", "READING", "SIZES", "LEAST", "GREATEST", "fits_name", "fits_ways", "fits_line", "tidy_line", "targets_of", "check_lines", "silent_ways", "reached", "check_ways", "Reader"]
def n2 : List PySem.Str := ["Machine", "numbered", "compiled", "settle", "begin", "exit_of", "kept_by", "step", "hop", "advance", "happens", "MOST_RUNS", "MOST_CELLS", "check_cells", "merged", "Row", "to_row", "Pair", "first_unlike", "parting_place"]
def n3 : List PySem.Str := ["_law_draw", "_law_pick", "_law_word", "_law_names", "_law_words", "_law_goal", "_law_ways", "_law_line", "_law_lines", "_law_near", "_law_settle", "_law_step", "_law_far", "_law_ten", "_law_runs", "_law_ahead", "_law_book", "_law_events", "_law_part"]
def names : List PySem.Str := n1 ++ n2 ++ n3
theorem run_f (w : World) : HandSHeadRun.RunEq R (PySem.W.view R.prog [72]) hk ob 8000 names (w.withFollow "special-get-raises" false) := fun os => by kernel_rfl
theorem run_t (w : World) : HandSHeadRun.RunEq R (PySem.W.view R.prog [72]) hk ob 8000 names (w.withFollow "special-get-raises" true) := fun os => by kernel_rfl
theorem run (w : World) : HandSHeadRun.RunEq R (PySem.W.view R.prog [72]) hk ob 8000 names w :=
  PySem.W.byRow2 "special-get-raises" (P := fun w => HandSHeadRun.RunEq R (PySem.W.view R.prog [72]) hk ob 8000 names w) run_f run_t w
end
end K21
end

section
set_option maxRecDepth 100000
set_option maxHeartbeats 4000000
/-! A0: readers as plain data. -/
namespace K21
open PySem
/-- a line; targets by number -/
inductive Ln where
  | cas (ws : List (Int × Nat)) (o : Nat)
  | tak (t : Nat)
  | rst (w : Int) (t : Nat)
  | cap (n : Int) (t : Nat)
  | jmp (n : Int) (t : Nat)
  | set (n : Int) (t : Nat)
  | upt (n : Int) (a b : Nat)
  | skp (c : Int) (t : Nat)
  | cut
  | rfs
/-- the words -/
inductive Wd where
  | cas | tak | rst | cap | jmp | set | upt | skp | cut | rfs
  deriving DecidableEq
def Wd.str : Wd → Str
  | .cas => "case" | .tak => "take" | .rst => "rest" | .cap => "cap" | .jmp => "jump" | .set => "set" | .upt => "upto" | .skp => "skip" | .cut => "cut" | .rfs => "refuse"
def Wd.look : Wd → Bool
  | .cas => true | .tak => true | .rst => true | .cap => true | .jmp => true | _ => false
def Ln.wd : Ln → Wd
  | .cas _ _ => .cas | .tak _ => .tak | .rst _ _ => .rst | .cap _ _ => .cap | .jmp _ _ => .jmp | .set _ _ => .set | .upt _ _ _ => .upt | .skp _ _ => .skp | .cut => .cut | .rfs => .rfs
def Ln.tg : Ln → List Nat
  | .cas ws o => ws.map (·.2) ++ [o]
  | .tak t => [t] | .rst _ t => [t] | .cap _ t => [t] | .jmp _ t => [t] | .set _ t => [t] | .skp _ t => [t]
  | .upt _ a b => [a, b]
  | .cut => [] | .rfs => []
/-- the numbers within their bounds -/
def Ln.par : Ln → Prop
  | .cas ws _ => (ws.map (·.1)).Nodup ∧ (∀ p ∈ ws, 0 ≤ p.1 ∧ p.1 ≤ 5) ∧ ws.length ≤ 6
  | .rst w _ => 2 ≤ w ∧ w ≤ 4
  | .cap n _ => 0 ≤ n ∧ n ≤ 5
  | .jmp n _ => 1 ≤ n ∧ n ≤ 4
  | .set n _ => 0 ≤ n ∧ n ≤ 5
  | .upt n _ _ => 0 ≤ n ∧ n ≤ 5
  | .skp c _ => -3 ≤ c ∧ c ≤ 4
  | _ => True
def letters : Str := "abcdefghijklmnopqrstuvwxyz"
structure NmOk (x : Str) : Prop where
  l1 : 1 ≤ x.length
  l2 : x.length ≤ 12
  sg : ∀ c ∈ x.cps.toList, c ∈ letters.cps.toList
/-- words as they are drawn: the i-th may go to the t-th -/
def GoOk (ws : List Wd) (i t : Nat) : Prop := t < ws.length ∧ (∀ x, ws[i]? = some x → x.look = false → (∃ y, ws[t]? = some y ∧ y.look = true) ∨ (0 < i ∧ i < t))
structure WsOk (ws : List Wd) : Prop where
  pos : 0 < ws.length
  le : ws.length ≤ 8
  fst : ∀ x, ws[0]? = some x → x.look = true ∨ x = .set ∨ x = .upt
  lk : ∃ (i : Nat) (x : Wd), ws[i]? = some x ∧ x.look = true
structure NsOk (nm : List Str) : Prop where
  nd : nm.Nodup
  ok : ∀ x ∈ nm, NmOk x
/-- a reader -/
structure Rd where
  nm : List Str
  ln : List Ln
def Rd.ws (R : Rd) : List Wd := R.ln.map Ln.wd
structure WF (R : Rd) : Prop where
  len : R.nm.length = R.ln.length
  ws : WsOk R.ws
  ns : NsOk R.nm
  par : ∀ (i : Nat) (l : Ln), R.ln[i]? = some l → l.par
  go : ∀ (i : Nat) (l : Ln), R.ln[i]? = some l → ∀ t ∈ l.tg, GoOk R.ws i t
/-- no more unlike items than there is room for -/
theorem nodup_le {α : Type} [DecidableEq α] : ∀ {l m : List α}, l.Nodup → (∀ x ∈ l, x ∈ m) → l.length ≤ m.length
  | [], _, _, _ => Nat.zero_le _
  | x :: r, m, nd, h => by
    have h1 : x ∈ m := h x (List.mem_cons_self ..)
    have nd' := List.nodup_cons.mp nd
    have ih := nodup_le (l := r) (m := m.erase x) nd'.2 fun y hy => by
      have hne : y ≠ x := fun e => nd'.1 (by rw [← e]; exact hy)
      exact (List.mem_erase_of_ne hne).mpr (h y (List.mem_cons_of_mem _ hy))
    rw [List.length_erase_of_mem h1] at ih
    have hp : 0 < m.length := List.length_pos_of_mem h1
    rw [List.length_cons]
    omega
end K21
end

section
set_option maxRecDepth 100000
set_option maxHeartbeats 4000000
/-! M1: the machine in plain Lean: silent lines, steps. -/
namespace K21
open PySem
theorem g_some {α : Type} {l : List α} {i : Nat} (h : i < l.length) : ∃ x, l[i]? = some x := ⟨l[i], List.getElem?_eq_getElem h⟩
theorem g_lt {α : Type} {l : List α} {i : Nat} {x : α} (h : l[i]? = some x) : i < l.length := (List.getElem?_eq_some_iff.mp h).1
theorem g_mem {α : Type} {l : List α} {i : Nat} {x : α} (h : l[i]? = some x) : x ∈ l := List.mem_of_getElem? h
/-- a place in the reading: the line (none: refused), the kept number, what is left to read there -/
structure St where
  ln : Option Nat
  kept : Option Int
  left : Int
  deriving DecidableEq
def gone : St := ⟨none, none, 0⟩
inductive Out where
  | stop (s : St)
  | go (i : Nat) (k : Option Int) (c : Bool)
def upTo (n : Int) (a b : Nat) : Option Int → Nat
  | some v => if v ≤ n then a else b
  | none => b
/-- one silent line -/
def silL (l : Ln) (i : Nat) (k : Option Int) : Out := match l with
  | .skp c t => match k with
    | none => .stop gone
    | some v => if v + c < 0 then .stop gone else if 0 < v + c then .stop ⟨some i, none, v + c⟩ else .go t none false
  | .set n t => .go t (some n) false
  | .upt n a b => .go (upTo n a b k) k false
  | .cut => .go 0 none true
  | .rfs => .stop gone
  | .jmp n _ => .stop ⟨some i, k, n⟩
  | .cas _ _ => .stop ⟨some i, k, 1⟩
  | .tak _ => .stop ⟨some i, k, 1⟩
  | .rst _ _ => .stop ⟨some i, k, 1⟩
  | .cap _ _ => .stop ⟨some i, k, 1⟩
def settleO (L : List Ln) : Nat → Nat → Option Int → Option (St × Bool)
  | 0, _, _ => none
  | n + 1, i, k => match L[i]? with
    | none => none
    | some l => match silL l i k with
      | .stop s => some (s, false)
      | .go j k' c => (settleO L n j k').map fun r => (r.1, c || r.2)
theorem settleO_stop {L : List Ln} {n i : Nat} {k : Option Int} {l : Ln} {s : St} (h : L[i]? = some l) (e : silL l i k = .stop s) : settleO L (n + 1) i k = some (s, false) := by
  show (match L[i]? with | none => none | some l => _) = _
  rw [h]
  show (match silL l i k with | .stop s => some (s, false) | .go j k' c => _) = _
  rw [e]
theorem settleO_go {L : List Ln} {n i j : Nat} {k k' : Option Int} {c : Bool} {l : Ln} (h : L[i]? = some l) (e : silL l i k = .go j k' c) : settleO L (n + 1) i k = (settleO L n j k').map fun r => (r.1, c || r.2) := by
  show (match L[i]? with | none => none | some l => _) = _
  rw [h]
  show (match silL l i k with | .stop s => some (s, false) | .go j k' c => _) = _
  rw [e]
theorem settleO_succ {L : List Ln} : ∀ {n i : Nat} {k : Option Int} {r : St × Bool}, settleO L n i k = some r → settleO L (n + 1) i k = some r
  | 0, _, _, _, h => nomatch h
  | n + 1, i, k, r, h => by
    cases hl : L[i]? with
    | none =>
      have h : (match L[i]? with | none => none | some l => _) = some r := h
      rw [hl] at h
      exact nomatch h
    | some l =>
      cases he : silL l i k with
      | stop s =>
        rw [settleO_stop hl he] at h ⊢
        exact h
      | go j k' c =>
        rw [settleO_go hl he] at h ⊢
        obtain ⟨q, hq, e⟩ := Option.map_eq_some_iff.mp h
        rw [settleO_succ hq]
        exact congrArg some e
theorem settleO_le {L : List Ln} {n m i : Nat} {k : Option Int} {r : St × Bool} (hm : n ≤ m) (h : settleO L n i k = some r) : settleO L m i k = some r := by
  obtain ⟨d, rfl⟩ := Nat.le.dest hm
  clear hm
  induction d with
  | zero => exact h
  | succ d ih => exact settleO_succ ih
def settleS (L : List Ln) (i : Nat) (k : Option Int) : St × Bool := (settleO L 30 i k).getD (gone, false)
def begS (L : List Ln) : St := (settleS L 0 none).1
theorem settleS_of {L : List Ln} {n i : Nat} {k : Option Int} {r : St × Bool} (hn : n ≤ 30) (h : settleO L n i k = some r) : settleS L i k = r := by
  unfold settleS
  rw [settleO_le hn h] <;> rfl
def KOk (k : Option Int) : Prop := ∀ v, k = some v → 0 ≤ v ∧ v ≤ 6
/-- a place as it may be -/
def StIn (l : Ln) (k : Option Int) (left : Int) : Prop := KOk k ∧ 1 ≤ left ∧ match l with
  | .skp _ _ => k = none ∧ left ≤ 10
  | .jmp n _ => left ≤ n
  | .set _ _ => False
  | .upt _ _ _ => False
  | .cut => False
  | .rfs => False
  | _ => left = 1
def StOk (L : List Ln) (s : St) : Prop := s = gone ∨ ∃ i l, s.ln = some i ∧ L[i]? = some l ∧ StIn l s.kept s.left
def meas (R : Rd) (i : Nat) : Nat := if (R.ws[i]?.getD .rfs).look = true then 1 else if i = 0 then 2 else 2 + (R.ln.length - i)
theorem meas_look {R : Rd} {i : Nat} {x : Wd} (h : R.ws[i]? = some x) (hl : x.look = true) : meas R i = 1 := by
  unfold meas
  rw [h]
  exact if_pos hl
theorem meas_zero {R : Rd} {x : Wd} (h : R.ws[0]? = some x) : meas R 0 ≤ 2 := by
  unfold meas
  split
  · decide
  · simp
theorem meas_hid {R : Rd} {i : Nat} {x : Wd} (h : R.ws[i]? = some x) (hl : x.look = false) (hi : 0 < i) : meas R i = 2 + (R.ln.length - i) := by
  unfold meas
  rw [h]
  show (if x.look = true then _ else _) = _
  rw [hl, if_neg (by decide), if_neg (by omega)]
theorem meas_hid0 {R : Rd} {i : Nat} {x : Wd} (h : R.ws[i]? = some x) (hl : x.look = false) : 2 ≤ meas R i := by
  unfold meas
  rw [h]
  show 2 ≤ (if x.look = true then _ else _)
  rw [hl, if_neg (by decide)]
  split <;> omega
theorem ws_get {R : Rd} {i : Nat} {l : Ln} (h : R.ln[i]? = some l) : R.ws[i]? = some l.wd := by rw [Rd.ws, List.getElem?_map, h] <;> rfl
theorem ws_len (R : Rd) : R.ws.length = R.ln.length := by rw [Rd.ws, List.length_map]
theorem meas_go {R : Rd} {i t : Nat} {l : Ln} (h : R.ln[i]? = some l) (hl : l.wd.look = false) (g : GoOk R.ws i t) : meas R t < meas R i := by
  have hi := meas_hid0 (ws_get h) hl
  have ht : t < R.ln.length := by rw [← ws_len]; exact g.1
  rcases g.2 _ (ws_get h) hl with ⟨y, hy, hyl⟩ | ⟨h1, h2⟩
  · rw [meas_look hy hyl]; omega
  · rw [meas_hid (ws_get h) hl h1]
    obtain ⟨y, hy⟩ := g_some (l := R.ws) (i := t) g.1
    cases hyl : y.look with
    | true => rw [meas_look hy hyl]; omega
    | false => rw [meas_hid hy hyl (by omega)]; omega
theorem meas_le {R : Rd} (wf : WF R) (i : Nat) : meas R i ≤ 10 := by
  have h := wf.ws.le
  rw [ws_len] at h
  unfold meas
  split
  · decide
  · split <;> omega
theorem len_pos {R : Rd} (wf : WF R) : 0 < R.ln.length := by rw [← ws_len]; exact wf.ws.pos
theorem not_cut0 {R : Rd} (wf : WF R) (h : R.ln[0]? = some .cut) : False := by
  rcases wf.ws.fst _ (ws_get h) with e | e | e <;> exact nomatch e
/-- settling ends, at a fit place; behind a cut it is the beginning's -/
theorem settle_ok {R : Rd} (wf : WF R) : ∀ (n i : Nat) (k : Option Int), i < R.ln.length → KOk k → meas R i ≤ n → ∃ s c, settleO R.ln n i k = some (s, c) ∧ StOk R.ln s ∧ (n ≤ 30 → c = true → s = begS R.ln)
  | 0, i, k, hi, hk, hm => by
    exfalso
    unfold meas at hm
    split at hm
    · omega
    · split at hm <;> omega
  | n + 1, i, k, hi, hk, hm => by
    obtain ⟨l, hl⟩ := g_some hi
    have hp := wf.par i l hl
    have hg := wf.go i l hl
    have stop : ∀ s, silL l i k = .stop s → StOk R.ln s → ∃ s c, settleO R.ln (n + 1) i k = some (s, c) ∧ StOk R.ln s ∧ (n + 1 ≤ 30 → c = true → s = begS R.ln) := fun s e ok => ⟨s, false, settleO_stop hl e, ok, fun _ h => nomatch h⟩
    have go : ∀ t k', silL l i k = .go t k' false → KOk k' → GoOk R.ws i t → l.wd.look = false → ∃ s c, settleO R.ln (n + 1) i k = some (s, c) ∧ StOk R.ln s ∧ (n + 1 ≤ 30 → c = true → s = begS R.ln) := fun t k' e hk' g hlk => by
      have hmt := meas_go hl hlk g
      obtain ⟨s, c, h1, h2, h3⟩ := settle_ok wf n t k' (by rw [← ws_len]; exact g.1) hk' (by omega)
      exact ⟨s, c, by rw [settleO_go hl e, h1]; rfl, h2, fun h => h3 (by omega)⟩
    cases l with
    | cas ws o => exact stop _ rfl (.inr ⟨i, _, rfl, hl, hk, Int.le_refl _, rfl⟩)
    | tak t => exact stop _ rfl (.inr ⟨i, _, rfl, hl, hk, Int.le_refl _, rfl⟩)
    | rst w t => exact stop _ rfl (.inr ⟨i, _, rfl, hl, hk, Int.le_refl _, rfl⟩)
    | cap m t => exact stop _ rfl (.inr ⟨i, _, rfl, hl, hk, Int.le_refl _, rfl⟩)
    | jmp m t => exact stop _ rfl (.inr ⟨i, _, rfl, hl, hk, hp.1, Int.le_refl _⟩)
    | rfs => exact stop _ rfl (.inl rfl)
    | set m t => exact go t (some m) rfl (fun v e => by cases e; have : 0 ≤ m ∧ m ≤ 5 := hp; omega) (hg t (List.mem_singleton.mpr rfl)) rfl
    | upt m a b =>
      refine go (upTo m a b k) k rfl hk ?_ rfl
      have : upTo m a b k = a ∨ upTo m a b k = b := by
        cases k with
        | none => exact .inr rfl
        | some v =>
          show (if v ≤ m then a else b) = a ∨ (if v ≤ m then a else b) = b
          split
          · exact .inl rfl
          · exact .inr rfl
      rcases this with e | e
      · rw [e]; exact hg a (List.mem_cons_self ..)
      · rw [e]; exact hg b (List.mem_cons_of_mem _ (List.mem_singleton.mpr rfl))
    | skp c t =>
      cases k with
      | none => exact stop _ rfl (.inl rfl)
      | some v =>
        have hv := hk v rfl
        have hc : -3 ≤ c ∧ c ≤ 4 := hp
        by_cases h1 : v + c < 0
        · exact stop gone (if_pos h1) (.inl rfl)
        · by_cases h2 : 0 < v + c
          · exact stop ⟨some i, none, v + c⟩ ((if_neg h1).trans (if_pos h2)) (.inr ⟨i, _, rfl, hl, (fun _ e => (nomatch e)), by show 1 ≤ v + c; omega, rfl, by show v + c ≤ 10; omega⟩)
          · exact go t none ((if_neg h1).trans (if_neg h2)) (fun _ e => nomatch e) (hg t (List.mem_singleton.mpr rfl)) rfl
    | cut =>
      have h0 : 0 < R.ln.length := by omega
      obtain ⟨x, hx⟩ := g_some (l := R.ws) (i := 0) (by rw [ws_len]; exact h0)
      have m0 := meas_zero hx
      have hi0 : 0 < i := by
        rcases Nat.eq_zero_or_pos i with e | e
        · subst e; exact (not_cut0 wf hl).elim
        · exact e
      have mi := meas_hid (ws_get hl) rfl hi0
      obtain ⟨s, c, h1, h2, h3⟩ := settle_ok wf n 0 none h0 (fun _ e => nomatch e) (by omega)
      refine ⟨s, true, by rw [settleO_go (j := 0) (k' := none) (c := true) hl rfl, h1]; rfl, h2, fun h _ => ?_⟩
      unfold begS
      rw [settleS_of (by omega) h1]
theorem settle_all {R : Rd} (wf : WF R) {i : Nat} {k : Option Int} (hi : i < R.ln.length) (hk : KOk k) : settleO R.ln 30 i k = some (settleS R.ln i k) ∧ StOk R.ln (settleS R.ln i k).1 ∧ ((settleS R.ln i k).2 = true → (settleS R.ln i k).1 = begS R.ln) := by
  obtain ⟨s, c, h1, h2, h3⟩ := settle_ok wf 30 i k hi hk (Nat.le_trans (meas_le wf i) (by decide))
  rw [settleS_of (Nat.le_refl _) h1]
  exact ⟨h1, h2, h3 (Nat.le_refl _)⟩
/-- the beginning is a place in a line -/
theorem beg_at {R : Rd} (wf : WF R) : ∃ i, (begS R.ln).ln = some i ∧ StOk R.ln (begS R.ln) := by
  have h0 := len_pos wf
  obtain ⟨l, hl⟩ := g_some h0
  have ok : StOk R.ln (begS R.ln) := (settle_all wf (k := none) h0 (fun _ e => nomatch e)).2.1
  have look : ∀ i k l, R.ln[i]? = some l → l.wd.look = true → ∃ s j, silL l i k = .stop s ∧ s.ln = some j := fun i k l _ e => by
    cases l <;> first | exact ⟨_, _, rfl, rfl⟩ | exact nomatch (show false = true from e)
  have seek : ∀ k l, R.ln[0]? = some l → l.wd.look = true → ∃ i, (settleS R.ln 0 k).1.ln = some i := fun k l h e => by
    obtain ⟨s, j, e1, e2⟩ := look 0 k l h e
    rw [settleS_of (n := 1) (by decide) (settleO_stop h e1)]
    exact ⟨j, e2⟩
  have go : ∀ t k', silL l 0 none = .go t k' false → l.wd.look = false → GoOk R.ws 0 t → ∃ i, (begS R.ln).ln = some i := fun t k' e hn g => by
    rcases g.2 _ (ws_get hl) hn with ⟨y, hy, hyl⟩ | ⟨h1, _⟩
    · obtain ⟨l2, hl2⟩ := g_some (l := R.ln) (i := t) (by rw [← ws_len]; exact g.1)
      rw [ws_get hl2] at hy
      cases hy
      obtain ⟨s, j, e1, e2⟩ := look t k' l2 hl2 hyl
      have h1 : settleO R.ln 1 t k' = some (s, false) := settleO_stop hl2 e1
      unfold begS
      rw [settleS_of (n := 2) (r := (s, false)) (by decide) (by rw [settleO_go hl e, h1]; rfl)]
      exact ⟨j, e2⟩
    · omega
  have hg := wf.go 0 l hl
  have : ∃ i, (begS R.ln).ln = some i := by
    rcases wf.ws.fst _ (ws_get hl) with e | e | e
    · exact seek none l hl e
    · cases l with
      | set m t => exact go t (some m) rfl rfl (hg t (List.mem_singleton.mpr rfl))
      | _ => exact nomatch e
    · cases l with
      | upt m a b => exact go b none rfl rfl (hg b (List.mem_cons_of_mem _ (List.mem_singleton.mpr rfl)))
      | _ => exact nomatch e
  obtain ⟨i, hi⟩ := this
  exact ⟨i, hi, ok⟩
/-! ### steps -/
def keptBy (l : Ln) (k : Option Int) (cell : Int) : Option Int := match l with
  | .tak _ => some cell
  | .rst w _ => some (cell % w)
  | .cap n _ => some (min cell n)
  | _ => k
def wayIn (cell : Int) (o : Nat) : List (Int × Nat) → Nat
  | [] => o
  | p :: r => if p.1 = cell then p.2 else wayIn cell o r
def wayTo (l : Ln) (cell : Int) : Nat := match l with
  | .cas ws o => wayIn cell o ws
  | .tak t => t | .rst _ t => t | .cap _ t => t | .jmp _ t => t | .set _ t => t | .skp _ t => t
  | .upt _ _ b => b
  | .cut => 0 | .rfs => 0
def stepL (L : List Ln) (l : Ln) (i : Nat) (s : St) (cell : Int) : St × Bool :=
  if 1 < s.left then (⟨some i, s.kept, s.left - 1⟩, false) else settleS L (wayTo l cell) (keptBy l s.kept cell)
def stepS (L : List Ln) (cell : Int) (s : St) : St × Bool := match s.ln with
  | none => (s, false)
  | some i => match L[i]? with
    | none => (s, false)
    | some l => stepL L l i s cell
theorem stepS_of {L : List Ln} {cell : Int} {s : St} {i : Nat} {l : Ln} (h1 : s.ln = some i) (h2 : L[i]? = some l) : stepS L cell s = stepL L l i s cell := by
  unfold stepS
  rw [h1]
  show (match L[i]? with | none => (s, false) | some l => stepL L l i s cell) = _
  rw [h2]
theorem wayIn_mem (cell : Int) (o : Nat) : ∀ ws : List (Int × Nat), wayIn cell o ws ∈ ws.map (·.2) ++ [o]
  | [] => List.mem_singleton.mpr rfl
  | p :: r => by
    show (if p.1 = cell then p.2 else wayIn cell o r) ∈ p.2 :: (r.map (·.2) ++ [o])
    split
    · exact List.mem_cons_self ..
    · exact List.mem_cons_of_mem _ (wayIn_mem cell o r)
/-- the way on from a line at which something stands -/
theorem wayTo_ok {R : Rd} (wf : WF R) {i : Nat} {l : Ln} {k : Option Int} {left cell : Int} (h : R.ln[i]? = some l) (hs : StIn l k left) : wayTo l cell < R.ln.length := by
  have hg := wf.go i l h
  rw [← ws_len]
  cases l with
  | cas ws o => exact (hg _ (wayIn_mem cell o ws)).1
  | tak t => exact (hg t (List.mem_singleton.mpr rfl)).1
  | rst w t => exact (hg t (List.mem_singleton.mpr rfl)).1
  | cap m t => exact (hg t (List.mem_singleton.mpr rfl)).1
  | jmp m t => exact (hg t (List.mem_singleton.mpr rfl)).1
  | skp m t => exact (hg t (List.mem_singleton.mpr rfl)).1
  | set m t => exact hs.2.2.elim
  | upt m a b => exact hs.2.2.elim
  | cut => exact hs.2.2.elim
  | rfs => exact hs.2.2.elim
theorem keptBy_ok {R : Rd} (wf : WF R) {i : Nat} {l : Ln} {k : Option Int} {left cell : Int} (h : R.ln[i]? = some l) (hs : StIn l k left) (hc : 0 ≤ cell ∧ cell ≤ 6) : KOk (keptBy l k cell) := by
  have hp := wf.par i l h
  intro v e
  cases l with
  | tak t => cases e; exact hc
  | rst w t =>
    have : 2 ≤ w ∧ w ≤ 4 := hp
    have e : some (cell % w) = some v := e
    cases e
    have h1 := Int.emod_nonneg cell (b := w) (by omega)
    have h2 := Int.emod_lt_of_pos cell (b := w) (by omega)
    omega
  | cap n t =>
    have : 0 ≤ n ∧ n ≤ 5 := hp
    have e : some (min cell n) = some v := e
    cases e
    omega
  | cas ws o => exact hs.1 v e
  | jmp m t => exact hs.1 v e
  | skp m t => exact hs.1 v e
  | set m t => exact hs.1 v e
  | upt m a b => exact hs.1 v e
  | cut => exact hs.1 v e
  | rfs => exact hs.1 v e
theorem StIn.less {l : Ln} {k : Option Int} {left : Int} (h : StIn l k left) (h1 : 1 < left) : StIn l k (left - 1) := by
  obtain ⟨a, b, c⟩ := h
  refine ⟨a, by omega, ?_⟩
  cases l with
  | skp m t => exact ⟨c.1, by have : left ≤ 10 := c.2; omega⟩
  | jmp m t => have c : left ≤ m := c; show left - 1 ≤ m; omega
  | cas ws o => have c : left = 1 := c; omega
  | tak t => have c : left = 1 := c; omega
  | rst w t => have c : left = 1 := c; omega
  | cap m t => have c : left = 1 := c; omega
  | set m t => exact c
  | upt m a b => exact c
  | cut => exact c
  | rfs => exact c
theorem step_ok {R : Rd} (wf : WF R) {cell : Int} {s : St} (hc : 0 ≤ cell ∧ cell ≤ 6) (h : StOk R.ln s) : StOk R.ln (stepS R.ln cell s).1 ∧ ((stepS R.ln cell s).2 = true → (stepS R.ln cell s).1 = begS R.ln) := by
  rcases h with e | ⟨i, l, h1, h2, h3⟩
  · rw [e]; exact ⟨.inl rfl, fun z => nomatch z⟩
  · rw [stepS_of h1 h2]
    unfold stepL
    split
    · rename_i hlt
      exact ⟨.inr ⟨i, l, rfl, h2, h3.less hlt⟩, fun z => nomatch z⟩
    · have h := settle_all wf (wayTo_ok wf (cell := cell) h2 h3) (keptBy_ok wf h2 h3 hc)
      exact h.2
/-- iterated -/
def iter (L : List Ln) (cell : Int) : Nat → St → St
  | 0, s => s
  | n + 1, s => (stepS L cell (iter L cell n s)).1
theorem iter_add (L : List Ln) (cell : Int) (m : Nat) (s : St) : ∀ n, iter L cell (m + n) s = iter L cell n (iter L cell m s)
  | 0 => rfl
  | n + 1 => by
    show (stepS L cell (iter L cell (m + n) s)).1 = (stepS L cell (iter L cell n (iter L cell m s))).1
    rw [iter_add L cell m s n]
theorem iter_ok {R : Rd} (wf : WF R) {cell : Int} {s : St} (hc : 0 ≤ cell ∧ cell ≤ 6) (h : StOk R.ln s) : ∀ n, StOk R.ln (iter R.ln cell n s)
  | 0 => h
  | n + 1 => (step_ok wf hc (iter_ok wf hc h n)).1
/-- a code below 256 for each place in a line -/
def kc : Option Int → Nat
  | none => 0
  | some v => v.toNat + 1
def code (L : List Ln) (s : St) : Nat := match s.ln with
  | none => 0
  | some i => i * 32 + match L[i]? with
    | some (.skp _ _) => s.left.toNat
    | _ => (s.left.toNat - 1) * 8 + kc s.kept
theorem kc_lt {k : Option Int} (h : KOk k) : kc k < 8 := by
  cases k with
  | none => decide
  | some v => have := h v rfl; show v.toNat + 1 < 8; omega
theorem kc_inj {a b : Option Int} (ha : KOk a) (hb : KOk b) (h : kc a = kc b) : a = b := by
  cases a with
  | none => cases b with
    | none => rfl
    | some v => exact absurd h (by show ¬ 0 = v.toNat + 1; omega)
  | some u => cases b with
    | none => exact absurd h (by show ¬ u.toNat + 1 = 0; omega)
    | some v =>
      have h : u.toNat + 1 = v.toNat + 1 := h
      have := ha u rfl
      have := hb v rfl
      congr 1
      omega
/-- a place in a line -/
def Live (L : List Ln) (s : St) : Prop := ∃ i l, s.ln = some i ∧ L[i]? = some l ∧ StIn l s.kept s.left
theorem StOk.live {L : List Ln} {s : St} (h : StOk L s) (hn : s.ln ≠ none) : Live L s := by
  rcases h with rfl | h
  · exact absurd rfl hn
  · exact h
def low (l : Ln) (s : St) : Nat := match l with
  | .skp _ _ => s.left.toNat
  | _ => (s.left.toNat - 1) * 8 + kc s.kept
theorem code_of {L : List Ln} {s : St} {i : Nat} {l : Ln} (h1 : s.ln = some i) (h2 : L[i]? = some l) : code L s = i * 32 + low l s := by
  unfold code
  rw [h1]
  show i * 32 + (match L[i]? with | some (.skp _ _) => s.left.toNat | _ => (s.left.toNat - 1) * 8 + kc s.kept) = _
  rw [h2]
  cases l <;> rfl
theorem low_lt {R : Rd} (wf : WF R) {i : Nat} {l : Ln} {s : St} (h : R.ln[i]? = some l) (hs : StIn l s.kept s.left) : low l s < 32 := by
  have hk := kc_lt hs.1
  obtain ⟨_, h1, h2⟩ := hs
  have hp := wf.par i l h
  cases l with
  | skp m t => have : s.left ≤ 10 := h2.2; show s.left.toNat < 32; omega
  | jmp m t =>
    have : s.left ≤ m := h2
    have : 1 ≤ m ∧ m ≤ 4 := hp
    show (s.left.toNat - 1) * 8 + kc s.kept < 32
    omega
  | cas ws o => have e : s.left = 1 := h2; show (s.left.toNat - 1) * 8 + kc s.kept < 32; omega
  | tak t => have e : s.left = 1 := h2; show (s.left.toNat - 1) * 8 + kc s.kept < 32; omega
  | rst w t => have e : s.left = 1 := h2; show (s.left.toNat - 1) * 8 + kc s.kept < 32; omega
  | cap m t => have e : s.left = 1 := h2; show (s.left.toNat - 1) * 8 + kc s.kept < 32; omega
  | set m t => exact h2.elim
  | upt m a b => exact h2.elim
  | cut => exact h2.elim
  | rfs => exact h2.elim
theorem low_inj {l : Ln} {s u : St} (hs : StIn l s.kept s.left) (hu : StIn l u.kept u.left) (h : low l s = low l u) : s.kept = u.kept ∧ s.left = u.left := by
  have a := kc_lt hs.1
  have b := kc_lt hu.1
  have q := kc_inj hs.1 hu.1
  have h1 := hs.2.1
  have h2 := hu.2.1
  have other : (s.left.toNat - 1) * 8 + kc s.kept = (u.left.toNat - 1) * 8 + kc u.kept → s.kept = u.kept ∧ s.left = u.left := fun e => ⟨q (by omega), by omega⟩
  cases l with
  | skp m t =>
    have e : s.left.toNat = u.left.toNat := h
    exact ⟨hs.2.2.1.trans hu.2.2.1.symm, by omega⟩
  | _ => exact other h
theorem code_lt {R : Rd} (wf : WF R) {s : St} (h : Live R.ln s) : code R.ln s < 256 := by
  obtain ⟨i, l, h1, h2, h3⟩ := h
  rw [code_of h1 h2]
  have := low_lt wf h2 h3
  have := g_lt h2
  have h8 := wf.ws.le
  rw [ws_len] at h8
  omega
theorem code_inj {R : Rd} (wf : WF R) {s u : St} (h : Live R.ln s) (h' : Live R.ln u) (e : code R.ln s = code R.ln u) : s = u := by
  obtain ⟨i, l, h1, h2, h3⟩ := h
  obtain ⟨j, m, g1, g2, g3⟩ := h'
  rw [code_of h1 h2, code_of g1 g2] at e
  have a := low_lt wf h2 h3
  have b := low_lt wf g2 g3
  have : i = j := by omega
  subst this
  rw [h2] at g2
  cases g2
  obtain ⟨e1, e2⟩ := low_inj h3 g3 (by omega)
  obtain ⟨s1, s2, s3⟩ := s
  obtain ⟨u1, u2, u3⟩ := u
  have h1 : s1 = some i := h1
  have g1 : u1 = some i := g1
  have e1 : s2 = u2 := e1
  have e2 : s3 = u3 := e2
  rw [h1, g1, e1, e2]
/-- no more than 256 places -/
theorem places {R : Rd} (wf : WF R) {xs : List St} (nd : xs.Nodup) (h : ∀ s ∈ xs, Live R.ln s) : xs.length ≤ 256 := by
  have hn : (xs.map (code R.ln)).Nodup := by
    induction xs with
    | nil => exact List.nodup_nil
    | cons x r ih =>
      rw [List.map_cons, List.nodup_cons]
      have nd' := List.nodup_cons.mp nd
      refine ⟨fun hm => ?_, ih nd'.2 fun s hs => h s (List.mem_cons_of_mem _ hs)⟩
      obtain ⟨y, hy, e⟩ := List.mem_map.mp hm
      have := code_inj wf (h y (List.mem_cons_of_mem _ hy)) (h x (List.mem_cons_self ..)) e
      rw [this] at hy
      exact nd'.1 hy
  have := nodup_le (m := List.range 256) hn fun c hc => by
    obtain ⟨y, hy, e⟩ := List.mem_map.mp hc
    rw [← e, List.mem_range]
    exact code_lt wf (h y hy)
  rw [List.length_map, List.length_range] at this
  exact this
end K21
end

section
set_option maxRecDepth 100000
set_option maxHeartbeats 4000000
/-! M2: events and partings in plain Lean. -/
namespace K21
open PySem
/-- what a step tells: a cut, a refusal, nothing -/
def evS (L : List Ln) (cell : Int) (s : St) : Option Bool := if (stepS L cell s).2 = true then some true else if (stepS L cell s).1.ln = none then some false else none
def Quiet (L : List Ln) (cell : Int) (n : Nat) (s : St) : Prop := ∀ j, j < n → evS L cell (iter L cell j s) = none
theorem Quiet.le {L : List Ln} {cell : Int} {n m : Nat} {s : St} (h : Quiet L cell n s) (hm : m ≤ n) : Quiet L cell m s := fun j hj => h j (by omega)
theorem evS_none {L : List Ln} {cell : Int} {s : St} (h : evS L cell s = none) : (stepS L cell s).2 = false ∧ (stepS L cell s).1.ln ≠ none := by
  unfold evS at h
  split at h
  · exact nomatch h
  · rename_i h1
    split at h
    · exact nomatch h
    · rename_i h2
      exact ⟨by simpa using h1, h2⟩
theorem evS_cut {L : List Ln} {cell : Int} {s : St} (h : evS L cell s = some true) : (stepS L cell s).2 = true := by
  unfold evS at h
  split at h
  · rename_i h1; exact h1
  · split at h <;> exact nomatch h
/-- the first event within cnt cells -/
def Evt (L : List Ln) (cell : Int) (cnt : Nat) (s : St) (what : Option Bool) (done : Nat) (s' : St) : Prop :=
  s' = iter L cell done s ∧ ((what = none ∧ done = cnt ∧ Quiet L cell cnt s) ∨ ∃ j, done = j + 1 ∧ j < cnt ∧ Quiet L cell j s ∧ evS L cell (iter L cell j s) = what ∧ what ≠ none)
abbrev Two := St × St
abbrev Told := Option Bool × Option Bool
def onT (t : Told) : Bool := decide (t = (none, none)) || decide (t = (some true, some true))
inductive Res where
  | go (s : Two)
  | stop (t : Told) (p : Nat)
def Res.sh (k : Nat) : Res → Res
  | .go s => .go s
  | .stop t p => .stop t (k + p)
def Res.next (k : Nat) (f : Two → Res) : Res → Res
  | .go s => (f s).sh k
  | .stop t p => .stop t p
theorem Res.sh_sh (a b : Nat) (r : Res) : (r.sh b).sh a = r.sh (a + b) := by
  cases r with
  | go s => rfl
  | stop t p => show Res.stop t (a + (b + p)) = .stop t (a + b + p); rw [Nat.add_assoc]
theorem Res.sh_zero (r : Res) : r.sh 0 = r := by
  cases r with
  | go s => rfl
  | stop t p => show Res.stop t (0 + p) = _; rw [Nat.zero_add]
theorem Res.sh_next (a b : Nat) (f : Two → Res) (r : Res) : (r.next b f).sh a = (r.sh a).next (a + b) f := by
  cases r with
  | go s => show ((f s).sh b).sh a = (f s).sh (a + b); exact Res.sh_sh ..
  | stop t p => rfl
section
variable (L1 L2 : List Ln)
def evT (cell : Int) (s : Two) : Told := (evS L1 cell s.1, evS L2 cell s.2)
def stepT (cell : Int) (s : Two) : Two := ((stepS L1 cell s.1).1, (stepS L2 cell s.2).1)
def iterT (cell : Int) (n : Nat) (s : Two) : Two := (iter L1 cell n s.1, iter L2 cell n s.2)
/-- cell by cell -/
def scan (cell : Int) : Nat → Two → Res
  | 0, s => .go s
  | n + 1, s => if onT (evT L1 L2 cell s) = true then (scan cell n (stepT L1 L2 cell s)).sh 1 else .stop (evT L1 L2 cell s) 1
theorem scan_add (cell : Int) (b : Nat) : ∀ (a : Nat) (s : Two), scan L1 L2 cell (a + b) s = (scan L1 L2 cell a s).next a (scan L1 L2 cell b)
  | 0, s => by rw [Nat.zero_add]; exact (Res.sh_zero _).symm
  | a + 1, s => by
    rw [show a + 1 + b = (a + b) + 1 from by omega]
    show (if onT (evT L1 L2 cell s) = true then (scan L1 L2 cell (a + b) (stepT L1 L2 cell s)).sh 1 else .stop (evT L1 L2 cell s) 1) = (if onT (evT L1 L2 cell s) = true then (scan L1 L2 cell a (stepT L1 L2 cell s)).sh 1 else .stop (evT L1 L2 cell s) 1).next (a + 1) _
    split
    · rw [scan_add cell b a, Res.sh_next, Nat.add_comm 1 a]
    · rfl
theorem scan_one {cell : Int} {s : Two} (h : onT (evT L1 L2 cell s) = true) : scan L1 L2 cell 1 s = .go (stepT L1 L2 cell s) := by
  show (if onT (evT L1 L2 cell s) = true then (Res.go (stepT L1 L2 cell s)).sh 1 else .stop (evT L1 L2 cell s) 1) = _
  rw [if_pos h] <;> rfl
theorem scan_one_stop {cell : Int} {s : Two} (h : onT (evT L1 L2 cell s) = false) : scan L1 L2 cell 1 s = .stop (evT L1 L2 cell s) 1 := by
  show (if onT (evT L1 L2 cell s) = true then (Res.go (stepT L1 L2 cell s)).sh 1 else .stop (evT L1 L2 cell s) 1) = _
  rw [if_neg (by rw [h]; decide)]
theorem scan_quiet {cell : Int} {s : Two} : ∀ {n : Nat}, Quiet L1 cell n s.1 → Quiet L2 cell n s.2 → scan L1 L2 cell n s = .go (iterT L1 L2 cell n s)
  | 0, _, _ => rfl
  | n + 1, h1, h2 => by
    rw [scan_add, scan_quiet (h1.le (Nat.le_succ n)) (h2.le (Nat.le_succ n))]
    show (scan L1 L2 cell 1 (iterT L1 L2 cell n s)).sh n = _
    have e : evT L1 L2 cell (iterT L1 L2 cell n s) = (none, none) := by
      show (evS L1 cell (iter L1 cell n s.1), evS L2 cell (iter L2 cell n s.2)) = _
      rw [h1 n (Nat.lt_succ_self n), h2 n (Nat.lt_succ_self n)]
    rw [scan_one L1 L2 (by rw [e]; rfl)]
    rfl
theorem scan_mul {cell : Int} {n : Nat} {s : Two} (h : scan L1 L2 cell n s = .go s) : ∀ q, scan L1 L2 cell (q * n) s = .go s
  | 0 => by rw [Nat.zero_mul]; rfl
  | q + 1 => by
    rw [Nat.succ_mul, scan_add, scan_mul h q]
    show (scan L1 L2 cell n s).sh (q * n) = _
    rw [h] <;> rfl
theorem scan_stop {cell : Int} {n m p : Nat} {s : Two} {t : Told} (h : scan L1 L2 cell n s = .stop t p) (hm : n ≤ m) : scan L1 L2 cell m s = .stop t p := by
  obtain ⟨d, rfl⟩ := Nat.le.dest hm
  rw [scan_add, h] <;> rfl
end
/-- what is told at near -/
def tell (w : Option Bool) (d near : Nat) : Option Bool := if d = near then w else none
def NearOk (cnt d1 d2 : Nat) (w1 w2 : Option Bool) (near : Nat) : Prop := near ≤ cnt ∧ (w1 ≠ none → near ≤ d1) ∧ (w2 ≠ none → near ≤ d2) ∧ (near = cnt ∨ (w1 ≠ none ∧ near = d1) ∨ (w2 ≠ none ∧ near = d2))
/-- one machine: what stands at near, quiet ahead of it -/
theorem Evt.at_ {L : List Ln} {cell : Int} {cnt : Nat} {s s' : St} {w : Option Bool} {d near : Nat} (e : Evt L cell cnt s w d s') (h1 : near ≤ cnt) (h2 : w ≠ none → near ≤ d) :
    near ≤ d ∧ (∀ j, near = j + 1 → Quiet L cell j s ∧ evS L cell (iter L cell j s) = tell w d near) ∧ (d ≠ near → Quiet L cell near s) := by
  obtain ⟨rfl, ⟨rfl, rfl, q⟩ | ⟨j, rfl, hj, q, hw, hn⟩⟩ := e
  · refine ⟨h1, fun j hj => ⟨q.le (by omega), ?_⟩, fun _ => q.le h1⟩
    rw [q j (by omega)]
    unfold tell
    split <;> rfl
  · have h2 := h2 hn
    refine ⟨h2, fun i hi => ⟨q.le (by omega), ?_⟩, fun hne => q.le (by omega)⟩
    unfold tell
    by_cases he : j + 1 = near
    · rw [if_pos he]
      have : i = j := by omega
      rw [this]
      exact hw
    · rw [if_neg he]
      exact q i (by omega)
/-- one turn of the two -/
def Turn (L1 L2 : List Ln) (cell : Int) (cnt : Nat) (s : Two) (t : Told) (near : Nat) : Prop :=
  1 ≤ near ∧ near ≤ cnt ∧ ((t = (none, none) ∧ near = cnt ∧ scan L1 L2 cell near s = .go (iterT L1 L2 cell near s)) ∨
  (t = (some true, some true) ∧ scan L1 L2 cell near s = .go (begS L1, begS L2) ∧ iterT L1 L2 cell near s = (begS L1, begS L2)) ∨
  (onT t = false ∧ scan L1 L2 cell near s = .stop t near))
theorem turn_of {R1 R2 : Rd} (wf1 : WF R1) (wf2 : WF R2) {cell : Int} {cnt d1 d2 near : Nat} {s : Two} {s1 s2 : St} {w1 w2 : Option Bool} (hc : 0 ≤ cell ∧ cell ≤ 6) (hp : 0 < cnt) (ok1 : StOk R1.ln s.1) (ok2 : StOk R2.ln s.2)
    (e1 : Evt R1.ln cell cnt s.1 w1 d1 s1) (e2 : Evt R2.ln cell cnt s.2 w2 d2 s2) (hn : NearOk cnt d1 d2 w1 w2 near) :
    Turn R1.ln R2.ln cell cnt s (tell w1 d1 near, tell w2 d2 near) near ∧ ((tell w1 d1 near, tell w2 d2 near) = (none, none) → d1 = near ∧ d2 = near) := by
  obtain ⟨n1, n2, n3, n4⟩ := hn
  have a1 := e1.at_ n1 n2
  have a2 := e2.at_ n1 n3
  have pos : 1 ≤ near := by
    rcases n4 with e | ⟨h, e⟩ | ⟨h, e⟩
    · omega
    · obtain ⟨_, ⟨rfl, _⟩ | ⟨j, hj, _⟩⟩ := e1
      · exact absurd rfl h
      · omega
    · obtain ⟨_, ⟨rfl, _⟩ | ⟨j, hj, _⟩⟩ := e2
      · exact absurd rfl h
      · omega
  obtain ⟨j, rfl⟩ : ∃ j, near = j + 1 := ⟨near - 1, by omega⟩
  obtain ⟨q1, v1⟩ := a1.2.1 j rfl
  obtain ⟨q2, v2⟩ := a2.2.1 j rfl
  have sj := scan_quiet R1.ln R2.ln (s := s) q1 q2
  have ev : evT R1.ln R2.ln cell (iterT R1.ln R2.ln cell j s) = (tell w1 d1 (j + 1), tell w2 d2 (j + 1)) := by
    show (evS R1.ln cell (iter R1.ln cell j s.1), evS R2.ln cell (iter R2.ln cell j s.2)) = _
    rw [v1, v2]
  have st : stepT R1.ln R2.ln cell (iterT R1.ln R2.ln cell j s) = iterT R1.ln R2.ln cell (j + 1) s := rfl
  have sn : scan R1.ln R2.ln cell (j + 1) s = (scan R1.ln R2.ln cell 1 (iterT R1.ln R2.ln cell j s)).sh j := by rw [scan_add, sj] <;> rfl
  have dn : (tell w1 d1 (j + 1), tell w2 d2 (j + 1)) = (none, none) → j + 1 = cnt ∧ d1 = j + 1 ∧ d2 = j + 1 := fun h => by
    have t1 : tell w1 d1 (j + 1) = none := congrArg Prod.fst h
    have t2 : tell w2 d2 (j + 1) = none := congrArg Prod.snd h
    unfold tell at t1 t2
    have hcnt : j + 1 = cnt := by
      rcases n4 with e | ⟨h, e⟩ | ⟨h, e⟩
      · exact e
      · rw [if_pos e.symm] at t1; exact absurd t1 h
      · rw [if_pos e.symm] at t2; exact absurd t2 h
    refine ⟨hcnt, ?_, ?_⟩
    · obtain ⟨_, ⟨_, h, _⟩ | ⟨i, h, hi, _, _, hw⟩⟩ := e1
      · omega
      · have : d1 = j + 1 := by have := a1.1; omega
        rw [if_pos this] at t1
        exact absurd t1 hw
    · obtain ⟨_, ⟨_, h, _⟩ | ⟨i, h, hi, _, _, hw⟩⟩ := e2
      · omega
      · have : d2 = j + 1 := by have := a2.1; omega
        rw [if_pos this] at t2
        exact absurd t2 hw
  refine ⟨⟨pos, n1, ?_⟩, fun h => (dn h).2⟩
  by_cases h0 : (tell w1 d1 (j + 1), tell w2 d2 (j + 1)) = (none, none)
  · refine .inl ⟨h0, (dn h0).1, ?_⟩
    rw [sn, scan_one _ _ (by rw [ev, h0]; rfl), st] <;> rfl
  · by_cases h1 : (tell w1 d1 (j + 1), tell w2 d2 (j + 1)) = (some true, some true)
    · refine .inr (.inl ⟨h1, ?_⟩)
      have b1 : (stepS R1.ln cell (iter R1.ln cell j s.1)).1 = begS R1.ln := (step_ok wf1 hc (iter_ok wf1 hc ok1 j)).2 (evS_cut (v1.trans (congrArg Prod.fst h1)))
      have b2 : (stepS R2.ln cell (iter R2.ln cell j s.2)).1 = begS R2.ln := (step_ok wf2 hc (iter_ok wf2 hc ok2 j)).2 (evS_cut (v2.trans (congrArg Prod.snd h1)))
      have e : iterT R1.ln R2.ln cell (j + 1) s = (begS R1.ln, begS R2.ln) := by
        show ((stepS R1.ln cell (iter R1.ln cell j s.1)).1, (stepS R2.ln cell (iter R2.ln cell j s.2)).1) = _
        rw [b1, b2]
      refine ⟨?_, e⟩
      rw [sn, scan_one _ _ (by rw [ev, h1]; rfl), st, e] <;> rfl
    · refine .inr (.inr ?_)
      have hf : onT (tell w1 d1 (j + 1), tell w2 d2 (j + 1)) = false := by
        unfold onT
        rw [decide_eq_false h0, decide_eq_false h1] <;> rfl
      refine ⟨hf, ?_⟩
      rw [sn, scan_one_stop _ _ (by rw [ev]; exact hf), ev] <;> rfl
/-! ### runs -/
section
variable (L1 L2 : List Ln)
def scanR : List (Nat × Int) → Two → Res
  | [], s => .go s
  | (n, c) :: r, s => (scan L1 L2 c n s).next n (scanR r)
def tot : List (Nat × Int) → Nat
  | [] => 0
  | (n, _) :: r => n + tot r
theorem tot_app : ∀ (a b : List (Nat × Int)), tot (a ++ b) = tot a + tot b
  | [], b => (Nat.zero_add _).symm
  | (n, c) :: r, b => by show n + tot (r ++ b) = n + tot r + tot b; rw [tot_app r b, Nat.add_assoc]
theorem Res.next_next (a b : Nat) (f g : Two → Res) (r : Res) : (r.next a f).next (a + b) g = r.next a (fun s => (f s).next b g) := by
  cases r with
  | go s =>
    show ((f s).sh a).next (a + b) g = ((f s).next b g).sh a
    rw [Res.sh_next]
  | stop t p => rfl
theorem scanR_app : ∀ (a b : List (Nat × Int)) (s : Two), scanR L1 L2 (a ++ b) s = (scanR L1 L2 a s).next (tot a) (scanR L1 L2 b)
  | [], b, s => (Res.sh_zero _).symm
  | (n, c) :: r, b, s => by
    show (scan L1 L2 c n s).next n (scanR L1 L2 (r ++ b)) = ((scan L1 L2 c n s).next n (scanR L1 L2 r)).next (n + tot r) (scanR L1 L2 b)
    rw [Res.next_next]
    congr 1
    funext u
    exact scanR_app r b u
theorem scanR_one (n : Nat) (c : Int) (s : Two) : scanR L1 L2 [(n, c)] s = scan L1 L2 c n s := by
  show (scan L1 L2 c n s).next n (fun u => .go u) = _
  cases scan L1 L2 c n s <;> rfl
/-- two runs that scan alike -/
def Alike (a b : List (Nat × Int)) : Prop := tot a = tot b ∧ ∀ s, scanR L1 L2 a s = scanR L1 L2 b s
theorem Alike.refl (a : List (Nat × Int)) : Alike L1 L2 a a := ⟨rfl, fun _ => rfl⟩
variable {L1 L2}
theorem Alike.app {a b : List (Nat × Int)} (h : Alike L1 L2 a b) (x : List (Nat × Int)) : Alike L1 L2 (a ++ x) (b ++ x) := ⟨by rw [tot_app, tot_app, h.1], fun s => by rw [scanR_app, scanR_app, h.2, h.1]⟩
theorem Alike.trans {a b c : List (Nat × Int)} (h : Alike L1 L2 a b) (k : Alike L1 L2 b c) : Alike L1 L2 a c := ⟨h.1.trans k.1, fun s => (h.2 s).trans (k.2 s)⟩
/-- two neighbours of the same cell -/
theorem Alike.join (r : List (Nat × Int)) (n m : Nat) (c : Int) : Alike L1 L2 (r ++ [(n + m, c)]) (r ++ [(n, c)] ++ [(m, c)]) := by
  rw [List.append_assoc]
  have one : Alike L1 L2 [(n + m, c)] ([(n, c)] ++ [(m, c)]) := by
    refine ⟨by show n + m + 0 = n + (m + 0); omega, fun s => ?_⟩
    rw [scanR_one, scan_add]
    show _ = (scan L1 L2 c n s).next n (scanR L1 L2 [(m, c)])
    congr 1
    funext u
    exact (scanR_one L1 L2 m c u).symm
  refine ⟨by rw [tot_app, tot_app, one.1], fun s => ?_⟩
  rw [scanR_app, scanR_app]
  congr 1
  funext u
  exact one.2 u
end
/-- where they part -/
def part : Res → Option Nat
  | .go _ => none
  | .stop t p => if t.1 = some false ∨ t.2 = some false then none else some p
def Res.sw : Res → Res
  | .go s => .go (s.2, s.1)
  | .stop t p => .stop (t.2, t.1) p
theorem part_sw (r : Res) : part r.sw = part r := by
  cases r with
  | go s => rfl
  | stop t p =>
    show (if t.2 = some false ∨ t.1 = some false then none else some p) = (if t.1 = some false ∨ t.2 = some false then none else some p)
    by_cases h : t.1 = some false ∨ t.2 = some false
    · rw [if_pos h, if_pos h.symm]
    · rw [if_neg h, if_neg (fun z => h z.symm)]
theorem sw_sh (k : Nat) (r : Res) : (r.sh k).sw = r.sw.sh k := by cases r <;> rfl
theorem onT_sw (t : Told) : onT (t.2, t.1) = onT t := by
  obtain ⟨a, b⟩ := t
  cases a with
  | none => cases b with
    | none => rfl
    | some y => cases y <;> rfl
  | some x => cases b with
    | none => cases x <;> rfl
    | some y => cases x <;> cases y <;> rfl
theorem scan_sw (L1 L2 : List Ln) (cell : Int) : ∀ (n : Nat) (s : Two), scan L2 L1 cell n (s.2, s.1) = (scan L1 L2 cell n s).sw
  | 0, s => rfl
  | n + 1, s => by
    have e : evT L2 L1 cell (s.2, s.1) = ((evT L1 L2 cell s).2, (evT L1 L2 cell s).1) := rfl
    have ih := scan_sw L1 L2 cell n (stepT L1 L2 cell s)
    have e2 : stepT L2 L1 cell (s.2, s.1) = ((stepT L1 L2 cell s).2, (stepT L1 L2 cell s).1) := rfl
    show (if onT (evT L2 L1 cell (s.2, s.1)) = true then (scan L2 L1 cell n (stepT L2 L1 cell (s.2, s.1))).sh 1 else .stop (evT L2 L1 cell (s.2, s.1)) 1) = (if onT (evT L1 L2 cell s) = true then (scan L1 L2 cell n (stepT L1 L2 cell s)).sh 1 else .stop (evT L1 L2 cell s) 1).sw
    rw [e, onT_sw, e2, ih]
    split
    · rw [sw_sh]
    · rfl
theorem scanR_sw (L1 L2 : List Ln) : ∀ (r : List (Nat × Int)) (s : Two), scanR L2 L1 r (s.2, s.1) = (scanR L1 L2 r s).sw
  | [], s => rfl
  | (n, c) :: r, s => by
    show (scan L2 L1 c n (s.2, s.1)).next n (scanR L2 L1 r) = ((scan L1 L2 c n s).next n (scanR L1 L2 r)).sw
    rw [scan_sw]
    cases scan L1 L2 c n s with
    | go u =>
      show (scanR L2 L1 r (u.2, u.1)).sh n = ((scanR L1 L2 r u).sh n).sw
      rw [scanR_sw L1 L2 r u, sw_sh]
    | stop t p => rfl
/-- the answer -/
def answer (R1 R2 : Rd) (us : List (Nat × Int)) : Option Nat := part (scanR R1.ln R2.ln us (begS R1.ln, begS R2.ln))
theorem answer_sw (R1 R2 : Rd) (us : List (Nat × Int)) : answer R2 R1 us = answer R1 R2 us := by
  unfold answer
  rw [scanR_sw R1.ln R2.ln us (begS R1.ln, begS R2.ln), part_sw]
theorem answer_alike {R1 R2 : Rd} {a b : List (Nat × Int)} (h : Alike R1.ln R2.ln a b) : answer R1 R2 a = answer R1 R2 b := by unfold answer; rw [h.2]
end K21
end

section
set_option maxRecDepth 100000
set_option maxHeartbeats 4000000
/-! M3: turns within a run. -/
namespace K21
open PySem
/-- the first event of both: a cut behind b cells -/
def First2 (L1 L2 : List Ln) (cell : Int) (S : Two) (b : Nat) : Prop := ∃ j, b = j + 1 ∧ Quiet L1 cell j S.1 ∧ Quiet L2 cell j S.2 ∧ evS L1 cell (iter L1 cell j S.1) = some true ∧ evS L2 cell (iter L2 cell j S.2) = some true
theorem tell_some {w : Option Bool} {d near : Nat} (h : tell w d near ≠ none) : d = near ∧ w = tell w d near := by
  unfold tell at h ⊢
  by_cases e : d = near
  · rw [if_pos e]; exact ⟨e, rfl⟩
  · rw [if_neg e] at h; exact absurd rfl h
theorem evt_cut {L : List Ln} {cell : Int} {cnt d : Nat} {s s' : St} (e : Evt L cell cnt s (some true) d s') : ∃ j, d = j + 1 ∧ Quiet L cell j s ∧ evS L cell (iter L cell j s) = some true := by
  obtain ⟨_, ⟨h, _⟩ | ⟨j, h1, _, h2, h3, _⟩⟩ := e
  · exact nomatch h
  · exact ⟨j, h1, h2, h3⟩
theorem first_of {L1 L2 : List Ln} {cell : Int} {cnt d1 d2 near : Nat} {S : Two} {s1 s2 : St} {w1 w2 : Option Bool} (e1 : Evt L1 cell cnt S.1 w1 d1 s1) (e2 : Evt L2 cell cnt S.2 w2 d2 s2) (h : (tell w1 d1 near, tell w2 d2 near) = (some true, some true)) : First2 L1 L2 cell S near := by
  have h1 : tell w1 d1 near = some true := congrArg Prod.fst h
  have h2 : tell w2 d2 near = some true := congrArg Prod.snd h
  obtain ⟨a1, b1⟩ := tell_some (w := w1) (d := d1) (near := near) (by rw [h1]; exact nofun)
  obtain ⟨a2, b2⟩ := tell_some (w := w2) (d := d2) (near := near) (by rw [h2]; exact nofun)
  rw [h1] at b1
  rw [h2] at b2
  subst b1 b2
  obtain ⟨j, f1, f2, f3⟩ := evt_cut e1
  obtain ⟨i, g1, g2, g3⟩ := evt_cut e2
  have : i = j := by omega
  subst this
  exact ⟨i, by omega, f2, g2, f3, g3⟩
/-- one machine, its first event known -/
theorem evt_first {L : List Ln} {cell : Int} {cnt d j : Nat} {s s' : St} {w : Option Bool} (e : Evt L cell cnt s w d s') (q : Quiet L cell j s) (v : evS L cell (iter L cell j s) = some true) : (j + 1 ≤ cnt → w = some true ∧ d = j + 1) ∧ (cnt < j + 1 → w = none) := by
  obtain ⟨_, ⟨rfl, rfl, q'⟩ | ⟨i, rfl, hi, q', v', hw⟩⟩ := e
  · refine ⟨fun h => ?_, fun _ => rfl⟩
    have := q' j (by omega)
    rw [v] at this
    exact nomatch this
  · rcases Nat.lt_trichotomy i j with c | c | c
    · have := q i c
      rw [this] at v'
      exact absurd v'.symm hw
    · subst c
      rw [v] at v'
      exact ⟨fun _ => ⟨v'.symm, rfl⟩, fun h => by omega⟩
    · have := q' j c
      rw [v] at this
      exact nomatch this
theorem first_turn {L1 L2 : List Ln} {cell : Int} {cnt d1 d2 near b : Nat} {S : Two} {s1 s2 : St} {w1 w2 : Option Bool} (f : First2 L1 L2 cell S b) (e1 : Evt L1 cell cnt S.1 w1 d1 s1) (e2 : Evt L2 cell cnt S.2 w2 d2 s2) (hn : NearOk cnt d1 d2 w1 w2 near) :
    (b ≤ cnt → near = b) ∧ (cnt < b → (tell w1 d1 near, tell w2 d2 near) = (none, none)) := by
  obtain ⟨j, rfl, q1, q2, v1, v2⟩ := f
  have a := evt_first e1 q1 v1
  have c := evt_first e2 q2 v2
  obtain ⟨n1, n2, n3, n4⟩ := hn
  refine ⟨fun h => ?_, fun h => ?_⟩
  · obtain ⟨x1, x2⟩ := a.1 h
    obtain ⟨y1, y2⟩ := c.1 h
    have := n2 (by rw [x1]; exact nofun)
    have := n3 (by rw [y1]; exact nofun)
    rcases n4 with e | ⟨_, e⟩ | ⟨_, e⟩ <;> omega
  · rw [a.2 h, c.2 h]
    unfold tell
    split <;> split <;> rfl
/-- the law's turns -/
def Inn (L1 L2 : List Ln) (cell : Int) (bb : Two) (k rest before : Nat) (S : Two) : Prop :=
  rest = 0 ∨ (k ≤ 3 ∧ (k = 0 → before = 0) ∧ (1 ≤ k → S = bb) ∧ (2 ≤ k → First2 L1 L2 cell bb before) ∧ (3 ≤ k → rest < before))
theorem Inn.done {L1 L2 : List Ln} {cell : Int} {bb S : Two} {rest before : Nat} (h : Inn L1 L2 cell bb 6 rest before S) : rest = 0 := by
  rcases h with h | ⟨h, _⟩
  · exact h
  · omega
theorem scan_whole {L1 L2 : List Ln} {cell : Int} {bb : Two} {near q : Nat} (h : scan L1 L2 cell near bb = .go bb) : scan L1 L2 cell (near + q * near) bb = .go bb := by
  rw [scan_add, h]
  show (scan L1 L2 cell (q * near) bb).sh near = _
  rw [scan_mul L1 L2 h q] <;> rfl
theorem Inn.cut {L1 L2 : List Ln} {cell : Int} {bb S : Two} {k rest before near d1 d2 : Nat} {s1 s2 : St} {w1 w2 : Option Bool} (h : Inn L1 L2 cell bb k rest before S) (h0 : 0 < rest) (hp : 1 ≤ near) (e1 : Evt L1 cell rest S.1 w1 d1 s1) (e2 : Evt L2 cell rest S.2 w2 d2 s2)
    (hn : NearOk rest d1 d2 w1 w2 near) (ht : (tell w1 d1 near, tell w2 d2 near) = (some true, some true)) (hs : scan L1 L2 cell near S = .go bb) :
    (near = before → Inn L1 L2 cell bb (k + 1) ((rest - near) % near) near bb ∧ scan L1 L2 cell (near + (rest - near) / near * near) S = .go bb) ∧ (near ≠ before → Inn L1 L2 cell bb (k + 1) (rest - near) near bb) := by
  rcases h with h | ⟨k3, b0, sb, fb, rb⟩
  · omega
  have hnr := hn.1
  have notnone : (tell w1 d1 near, tell w2 d2 near) ≠ (none, none) := by rw [ht]; exact nofun
  have k2 : k ≤ 2 := by
    rcases Nat.lt_or_ge k 3 with c | c
    · omega
    · exfalso
      have e := sb (by omega)
      have f := fb (by omega)
      rw [← e] at f
      exact notnone ((first_turn f e1 e2 hn).2 (rb c))
  refine ⟨fun e => ?_, fun e => ?_⟩
  · have k1 : 1 ≤ k := by
      rcases Nat.eq_zero_or_pos k with c | c
      · have := b0 c; omega
      · exact c
    have hS := sb k1
    subst hS
    exact ⟨.inr ⟨by omega, fun z => by omega, fun _ => rfl, fun _ => first_of e1 e2 ht, fun _ => Nat.mod_lt _ hp⟩, scan_whole hs⟩
  · refine .inr ⟨by omega, fun z => by omega, fun _ => rfl, fun k2' => ?_, fun k3' => ?_⟩
    · have hS := sb (by omega)
      subst hS
      exact first_of e1 e2 ht
    · exfalso
      have hS := sb (by omega)
      have f := fb (by omega)
      rw [← hS] at f
      rcases Nat.lt_or_ge rest before with c | c
      · exact notnone ((first_turn f e1 e2 hn).2 c)
      · exact e ((first_turn f e1 e2 hn).1 c)
end K21
end

section
set_option maxRecDepth 100000
set_option maxHeartbeats 4000000
/-! K1: readers' data in the heap. -/
namespace K21
open PySem PySem.Spec PyProof.Rows L2
/-- a line's items: f renders a target, wa holds a case's ways -/
def Ln.row (f : Nat → V) (wa : Addr) (l : Ln) : List V := match l with
  | .cas _ o => [.str Wd.cas.str, .ref wa, f o]
  | .tak t => [.str Wd.tak.str, f t]
  | .rst w t => [.str Wd.rst.str, .int w, f t]
  | .cap n t => [.str Wd.cap.str, .int n, f t]
  | .jmp n t => [.str Wd.jmp.str, .int n, f t]
  | .set n t => [.str Wd.set.str, .int n, f t]
  | .upt n a b => [.str Wd.upt.str, .int n, f a, f b]
  | .skp c t => [.str Wd.skp.str, .int c, f t]
  | .cut => [.str Wd.cut.str]
  | .rfs => [.str Wd.rfs.str]
theorem row0 (f : Nat → V) (wa : Addr) (l : Ln) : (l.row f wa)[0]? = some (.str l.wd.str) := by cases l <;> rfl
/-- a sequence of references, as a tuple or as a list -/
def seqO (tu : Bool) (rs : List Addr) : HO := if tu then .tup (rs.map V.ref) else .lst (rs.map V.ref)
/-- a case's ways -/
def WaysAt (S : Addr → Prop) (H : Hp) (f : Nat → V) (rs : List Addr) (ws : List (Int × Nat)) : Prop :=
  rs.length = ws.length ∧ ∀ (i : Nat) (r : Addr) (x : Int × Nat), rs[i]? = some r → ws[i]? = some x → At S H r (.tup [.int x.1, f x.2])
def LnAt (S : Addr → Prop) (H : Hp) (f : Nat → V) (tu : Bool) (a : Addr) (l : Ln) : Prop :=
  ∃ wa, At S H a (.tup (l.row f wa)) ∧ ∀ ws o, l = .cas ws o → ∃ rs, At S H wa (seqO tu rs) ∧ WaysAt S H f rs ws
/-- the lines with their names -/
def LnsAt (S : Addr → Prop) (H : Hp) (f : Nat → V) (tu : Bool) (xs : List Addr) (R : Rd) : Prop :=
  xs.length = R.ln.length ∧ ∀ (i : Nat) (x : Addr) (n : Str) (l : Ln), xs[i]? = some x → R.nm[i]? = some n → R.ln[i]? = some l → ∃ la, At S H x (.tup [.str n, .ref la]) ∧ LnAt S H f tu la l
/-- the name of a target -/
def nmV (nm : List Str) (t : Nat) : V := .str (nm.getD t Str.empty)
/-- the number of a target -/
def ixV (t : Nat) : V := .int t
section
variable {S S' : Addr → Prop} {H H' : Hp} {f : Nat → V} {tu : Bool}
theorem WaysAt.up {rs : List Addr} {ws : List (Int × Nat)} (h : WaysAt S H f rs ws) (k : Kp S H H') : WaysAt S H' f rs ws := ⟨h.1, fun i r x a b => (h.2 i r x a b).up k⟩
theorem WaysAt.sub {rs : List Addr} {ws : List (Int × Nat)} (h : WaysAt S H f rs ws) (s : ∀ b, S' b → S b ∨ H b = none) : WaysAt S' H f rs ws := ⟨h.1, fun i r x a b => (h.2 i r x a b).sub s⟩
theorem LnAt.up {a : Addr} {l : Ln} (h : LnAt S H f tu a l) (k : Kp S H H') : LnAt S H' f tu a l := by
  obtain ⟨wa, h1, h2⟩ := h
  refine ⟨wa, h1.up k, fun ws o e => ?_⟩
  obtain ⟨rs, a1, a2⟩ := h2 ws o e
  exact ⟨rs, a1.up k, a2.up k⟩
theorem LnAt.sub {a : Addr} {l : Ln} (h : LnAt S H f tu a l) (s : ∀ b, S' b → S b ∨ H b = none) : LnAt S' H f tu a l := by
  obtain ⟨wa, h1, h2⟩ := h
  refine ⟨wa, h1.sub s, fun ws o e => ?_⟩
  obtain ⟨rs, a1, a2⟩ := h2 ws o e
  exact ⟨rs, a1.sub s, a2.sub s⟩
theorem LnsAt.up {xs : List Addr} {R : Rd} (h : LnsAt S H f tu xs R) (k : Kp S H H') : LnsAt S H' f tu xs R := ⟨h.1, fun i x n l a b c => by
  obtain ⟨la, h1, h2⟩ := h.2 i x n l a b c
  exact ⟨la, h1.up k, h2.up k⟩⟩
theorem LnsAt.sub {xs : List Addr} {R : Rd} (h : LnsAt S H f tu xs R) (s : ∀ b, S' b → S b ∨ H b = none) : LnsAt S' H f tu xs R := ⟨h.1, fun i x n l a b c => by
  obtain ⟨la, h1, h2⟩ := h.2 i x n l a b c
  exact ⟨la, h1.sub s, h2.sub s⟩⟩
end
theorem noSub {S : Addr → Prop} {H : Hp} : ∀ b, No b → S b ∨ H b = none := fun _ h => h.elim
theorem getD_of {nm : List Str} {t : Nat} {x : Str} (h : nm[t]? = some x) : nm.getD t Str.empty = x := by rw [List.getD_eq_getElem?_getD, h] <;> rfl
theorem nmV_of {nm : List Str} {t : Nat} {x : Str} (h : nm[t]? = some x) : nmV nm t = .str x := by unfold nmV; rw [getD_of h]
theorem get_some {α : Type} {l : List α} {i : Nat} (h : i < l.length) : ∃ x, l[i]? = some x := ⟨l[i], List.getElem?_eq_getElem h⟩
theorem get_lt {α : Type} {l : List α} {i : Nat} {x : α} (h : l[i]? = some x) : i < l.length := (List.getElem?_eq_some_iff.mp h).1
theorem map_some {α β : Type} {l : List α} {f : α → β} {i : Nat} {y : β} (h : (l.map f)[i]? = some y) : ∃ x, l[i]? = some x ∧ y = f x := by
  rw [List.getElem?_map] at h
  obtain ⟨x, h1, h2⟩ := Option.map_eq_some_iff.mp h
  exact ⟨x, h1, h2.symm⟩
theorem map_get {α β : Type} {l : List α} {f : α → β} {i : Nat} {x : α} (h : l[i]? = some x) : (l.map f)[i]? = some (f x) := by rw [List.getElem?_map, h] <;> rfl
theorem snoc_get {α : Type} {l : List α} {y x : α} {i : Nat} (h : (l ++ [y])[i]? = some x) : (i < l.length ∧ l[i]? = some x) ∨ (i = l.length ∧ x = y) := by
  by_cases hi : i < l.length
  · exact .inl ⟨hi, by rw [List.getElem?_append_left hi] at h; exact h⟩
  · rw [List.getElem?_append_right (by omega)] at h
    have hb := get_lt h
    have e : i = l.length := by simp at hb; omega
    subst e
    simp at h
    exact .inr ⟨rfl, h.symm⟩
theorem at_map {α : Type} {l : List α} {f : α → V} {i : Nat} {x : α} (h : l[i]? = some x) : atI (l.map f) (i : Int) = some (f x) := atI_nat (map_get h)
theorem flat_str (xs : List Str) : (xs.map V.str).all flatV = true := by rw [List.all_eq_true]; intro v h; obtain ⟨x, _, rfl⟩ := List.mem_map.mp h; rfl
theorem flat_int (xs : List Int) : (xs.map V.int).all flatV = true := by rw [List.all_eq_true]; intro v h; obtain ⟨x, _, rfl⟩ := List.mem_map.mp h; rfl
theorem inV_str {x : Str} {xs : List Str} : inV (.str x) (xs.map V.str) = decide (x ∈ xs) := by
  unfold inV
  rw [List.any_map]
  by_cases h : x ∈ xs
  · rw [decide_eq_true h, List.any_eq_true]
    exact ⟨x, h, by show (x == x) = true; exact beq_self_eq_true x⟩
  · rw [decide_eq_false h, List.any_eq_false]
    intro y hy
    show ¬ (y == x) = true
    intro e
    exact h (by rw [← eq_of_beq e]; exact hy)
theorem inV_int {x : Int} {xs : List Int} : inV (.int x) (xs.map V.int) = decide (x ∈ xs) := by
  unfold inV
  rw [List.any_map]
  by_cases h : x ∈ xs
  · rw [decide_eq_true h, List.any_eq_true]
    exact ⟨x, h, by show (x == x) = true; exact beq_self_eq_true x⟩
  · rw [decide_eq_false h, List.any_eq_false]
    intro y hy
    show ¬ (y == x) = true
    intro e
    exact h (by rw [← eq_of_beq e]; exact hy)
/-- what a comprehension gives: those below n that pass -/
def gv (n : Nat) (f : Nat → Bool) (v : Nat → V) : List V := ((List.range n).filter f).map v
theorem gv_yes {n : Nat} {f : Nat → Bool} {v : Nat → V} (h : f n = true) : gv (n + 1) f v = gv n f v ++ [v n] := by
  unfold gv
  rw [List.range_succ, List.filter_append, List.map_append, List.filter_cons, if_pos h] <;> rfl
theorem gv_no {n : Nat} {f : Nat → Bool} {v : Nat → V} (h : f n = false) : gv (n + 1) f v = gv n f v := by
  unfold gv
  rw [List.range_succ, List.filter_append, List.map_append, List.filter_cons, if_neg (by rw [h]; decide)]
  show _ ++ [] = _
  rw [List.append_nil]
theorem gv_len (n : Nat) (f : Nat → Bool) (v : Nat → V) : (gv n f v).length ≤ n := by
  unfold gv
  rw [List.length_map]
  have h := List.length_filter_le f (List.range n)
  rw [List.length_range] at h
  exact h
theorem gv_all {n : Nat} {v : Nat → V} : gv n (fun _ => true) v = (List.range n).map v := by
  unfold gv
  rw [List.filter_eq_self.mpr (fun _ _ => rfl)]
section
variable {σ : L2.St} {H : Hp} {Q : VK} {te : TE} {t : TT} {K : PySem.W.Frag} {g : TG}
/-- a comprehension's turn that makes new objects alone: a test's answer, an element's value -/
def EvB (t : TT) (σ : L2.St) (H : Hp) (b : Bool) : Prop := ∀ QT : Bool → Hp → Prop, (∀ H', Same H H' → QT b H') → t σ H QT
def EvV (te : TE) (σ : L2.St) (H : Hp) (v : V) : Prop := ∀ Q : VK, (∀ H', Same H H' → Q v H') → te σ H Q
theorem EvB.yes : EvB tYes σ H true := fun QT k => k H (Same.refl H)
theorem lc_turn {D : Addr} {H0 H1 : Hp} {vs : List Nat} {σ2 : L2.St} {i : Nat} {f : Nat → Bool} {v : Nat → V} (hi : i < 100000) (n : H0 D = none) (hD : H1 D = some (.lst (gv i f v))) (s : Same H0 H1) (hw : wipe σ2 vs = wipe σ vs) (ht : EvB t σ2 H1 (f i))
    (he : f i = true → ∀ H2, Same H1 H2 → EvV te σ2 H2 (v i)) : LcT t te vs σ D (fun H3 => H3 D = some (.lst (gv (i + 1) f v)) ∧ Same H0 H3) σ2 H1 := by
  refine x_LcT hw (ht _ fun H2 s2 => ?_)
  cases hf : f i with
  | true =>
    show te σ2 H2 _
    refine he hf H2 s2 _ fun H3 s3 => ?_
    exact x_AppS n ((s.trans s2).trans s3) (s3 _ _ (s2 _ _ hD)) (by have := gv_len i f v; rw [sizeLine_eq]; omega) (gv_yes hf)
  | false =>
    show _ ∧ _
    exact ⟨by rw [gv_no hf]; exact s2 _ _ hD, s.trans s2⟩
theorem x_LcRF {lo hi : Int} {m j : Nat} {vs : List Nat} (hm : hi = lo + (m : Int)) (hm2 : m < 100000) (f : Nat → Bool) (v : Nat → V) (hw : ∀ x, wipe ((wipe σ vs).set j (some x)) vs = wipe σ vs)
    (ht : ∀ (i : Nat) H', i < m → Same H H' → EvB t ((wipe σ vs).set j (some (.int (lo + (i : Int))))) H' (f i))
    (he : ∀ (i : Nat) H', i < m → Same H H' → f i = true → EvV te ((wipe σ vs).set j (some (.int (lo + (i : Int))))) H' (v i))
    (hd : ∀ D H', New H H' D (.lst (gv m f v)) → Q (.ref D) H') : LcR lo hi (gName j) t te vs σ H Q :=
  x_LcRs hm (fun i => gv i f v) rfl (fun D i H' hi n hD s => lc_turn (by omega) n hD s (hw _) (ht i H' hi s) fun hf H2 s2 => he i H2 hi (s.trans s2) hf) hd
theorem x_LcLF {a : Addr} {xs : List V} {vs : List Nat} (h : H a = some (.lst xs)) (hl : xs.length < 100000) (f : Nat → Bool) (v : Nat → V)
    (ht : ∀ (i : Nat) x H', xs[i]? = some x → Same H H' → ∀ R : L2.St → Hp → Prop, (∀ σ2, wipe σ2 vs = wipe σ vs → EvB t σ2 H' (f i) → (f i = true → ∀ H2, Same H' H2 → EvV te σ2 H2 (v i)) → R σ2 H') → g x (wipe σ vs) H' R)
    (hd : ∀ D H', New H H' D (.lst (gv xs.length f v)) → Q (.ref D) H') : LcA (jL K) g t te vs σ (.ref a) H Q :=
  x_LcLs h (fun i => gv i f v) rfl (fun D i x H' hx n hD s => ht i x H' hx s _ fun σ2 hw hb hv => lc_turn (by have := get_lt hx; omega) n hD s hw hb hv) hd
theorem x_LcTF {a : Addr} {xs : List V} {vs : List Nat} (h : H a = some (.tup xs)) (hl : xs.length < 100000) (f : Nat → Bool) (v : Nat → V)
    (ht : ∀ (i : Nat) x H', xs[i]? = some x → Same H H' → ∀ R : L2.St → Hp → Prop, (∀ σ2, wipe σ2 vs = wipe σ vs → EvB t σ2 H' (f i) → (f i = true → ∀ H2, Same H' H2 → EvV te σ2 H2 (v i)) → R σ2 H') → g x (wipe σ vs) H' R)
    (hd : ∀ D H', New H H' D (.lst (gv xs.length f v)) → Q (.ref D) H') : LcA (jT K) g t te vs σ (.ref a) H Q :=
  x_LcTs h (fun i => gv i f v) rfl (fun D i x H' hx n hD s => ht i x H' hx s _ fun σ2 hw hb hv => lc_turn (by have := get_lt hx; omega) n hD s hw hb hv) hd
end
/-- words in a list -/
abbrev wsO (ws : List Wd) : List V := (ws.map Wd.str).map V.str
theorem at_ws {ws : List Wd} {i : Nat} {x : Wd} (h : ws[i]? = some x) : atI (wsO ws) (i : Int) = some (.str x.str) := atI_nat (map_get (map_get h))
theorem wsO_len (ws : List Wd) : (wsO ws).length = ws.length := by rw [List.length_map, List.length_map]
theorem wsO_set {ws : List Wd} {j : Nat} {x : Wd} : (wsO ws).set j (.str x.str) = wsO (ws.set j x) := by
  show ((ws.map Wd.str).map V.str).set j (V.str x.str) = ((ws.set j x).map Wd.str).map V.str
  rw [List.map_set, List.map_set]
theorem wsO_snoc {ws : List Wd} {x : Wd} : wsO (ws ++ [x]) = wsO ws ++ [.str x.str] := by
  show ((ws ++ [x]).map Wd.str).map V.str = (ws.map Wd.str).map V.str ++ [.str x.str]
  rw [List.map_append, List.map_append] <;> rfl
theorem str_inj : ∀ {a b : Wd}, a.str = b.str → a = b := by
  intro a b h
  cases a <;> cases b <;> first | rfl | (exfalso; revert h; decide +kernel)
theorem mem_str {x : Wd} {ws : List Wd} : x.str ∈ ws.map Wd.str ↔ x ∈ ws := ⟨fun h => by
  obtain ⟨y, hy, e⟩ := List.mem_map.mp h
  rw [← str_inj e]; exact hy, fun h => List.mem_map.mpr ⟨x, h, rfl⟩⟩
theorem x_iteVV {c : Bool} {v1 v2 : V} {i j : Nat} {σ : L2.St} {H : Hp} {Q : VK} (h1 : σ[i]? = some (some v1)) (h2 : σ[j]? = some (some v2)) (k : ∀ v, v = v1 ∨ v = v2 → Q v H) : if c = true then tVar i σ H Q else tVar j σ H Q := by
  cases c
  · exact ⟨_, h2, k _ (.inr rfl)⟩
  · exact ⟨_, h1, k _ (.inl rfl)⟩
theorem x_ff {A B : Prop} (k : B) : if false = true then A else B := by rw [if_neg Bool.false_ne_true]; exact k
theorem x_tt {A B : Prop} (k : A) : if true = true then A else B := by rw [if_pos rfl]; exact k
theorem ixN_of {n j : Nat} {i : Int} (h : i = (j : Int)) (hj : j < n) : ixN n i = some j := by
  subst h
  unfold ixN
  rw [if_pos (by omega), if_pos (by omega)] <;> rfl
theorem tk {α : Type} {l : List α} {j : Nat} {y : α} (h : l[j]? = some y) : l.take (j + 1) = l.take j ++ [y] := by rw [List.take_add_one, h] <;> rfl
theorem x_inStr {K : PySem.W.Frag} {H : Hp} {Q : VK} {p : Addr} {xs : List Str} {x : Str} (h : H p = some (.lst (xs.map V.str))) (k : Q (.bl (decide (x ∈ xs))) H) : rIn K false (.str x) (.ref p) H Q :=
  x_inL h rfl (flat_str xs) (by rw [inV_str]; exact k)
theorem x_ninStr {K : PySem.W.Frag} {H : Hp} {Q : VK} {p : Addr} {xs : List Str} {x : Str} (h : H p = some (.lst (xs.map V.str))) (k : Q (.bl (!decide (x ∈ xs))) H) : rIn K true (.str x) (.ref p) H Q :=
  x_notInL h rfl (flat_str xs) (by rw [inV_str]; exact k)
theorem x_inInt {K : PySem.W.Frag} {H : Hp} {Q : VK} {p : Addr} {xs : List Int} {x : Int} (h : H p = some (.lst (xs.map V.int))) (k : Q (.bl (decide (x ∈ xs))) H) : rIn K false (.int x) (.ref p) H Q :=
  x_inL h rfl (flat_int xs) (by rw [inV_int]; exact k)
theorem x_ninInt {K : PySem.W.Frag} {H : Hp} {Q : VK} {p : Addr} {xs : List Int} {x : Int} (h : H p = some (.lst (xs.map V.int))) (k : Q (.bl (!decide (x ∈ xs))) H) : rIn K true (.int x) (.ref p) H Q :=
  x_notInL h rfl (flat_int xs) (by rw [inV_int]; exact k)
end K21
end

section
set_option maxRecDepth 100000
set_option maxHeartbeats 4000000
/-! K2: more steps. -/
namespace K21
open PySem PySem.Spec PyProof.Rows L2
noncomputable section
section
variable {σ : L2.St} {H : Hp} {Q : VK} {te ta tb : TE} {t : TT} {K : PySem.W.Frag} {g : TG}
def rRepK : R2 := fun x y H Q => ∃ l k xs, x = .ref l ∧ y = .int k ∧ H l = some (.lst xs) ∧ -(2 ^ 63) ≤ k ∧ k < 2 ^ 63 ∧ xs.length * k.toNat ≤ sizeLine ∧ AlO (.lst (List.replicate k.toNat xs).flatten) H Q
theorem k_rep {X : Cx} : OpR X (binaryOp .Mult) rRepK := op_rep
theorem x_rep2 {l : Addr} {xs : List V} (h : H l = some (.lst xs)) (hz : xs.length ≤ 100000) (k : ∀ p H2, New H H2 p (.lst (xs ++ xs)) → Q (.ref p) H2) : rRepK (.ref l) (.int 2) H Q :=
  ⟨l, 2, xs, rfl, rfl, h, by decide, by decide, by rw [sizeLine_eq]; show xs.length * 2 ≤ _; omega, x_AlO (by
    have e : (List.replicate (2 : Int).toNat xs).flatten = xs ++ xs := by show (xs ++ (xs ++ [])) = _; rw [List.append_nil]
    rw [e]; exact k)⟩
def LrA1 (x : V) (H : Hp) (Q : VK) : Prop := ∃ n, x = .int n ∧ RgOk 0 n ∧ AlO (.lst (rgV 0 n)) H Q
def LrA2 (x y : V) (H : Hp) (Q : VK) : Prop := ∃ i j, x = .int i ∧ y = .int j ∧ RgOk i j ∧ AlO (.lst (rgV i j)) H Q
theorem x_lrg1 (k : ta σ H fun x H1 => LrA1 x H1 Q) : tLstRg (tRg1 ta) σ H Q := k
theorem x_lrg2 (k : ta σ H fun x H1 => tb σ H1 fun y H2 => LrA2 x y H2 Q) : tLstRg (tRg2 ta tb) σ H Q := k
theorem x_LrA1 {n : Int} (h0 : 0 ≤ n) (h1 : n ≤ 1000) (k : ∀ p H2, New H H2 p (.lst (rgV 0 n)) → Q (.ref p) H2) : LrA1 (.int n) H Q := ⟨n, rfl, RgOk.of_le (by omega) (by omega) (by omega) h0, x_AlO k⟩
theorem x_LrA2 {i j : Int} (h0 : 0 ≤ i) (h1 : i ≤ 1000) (h2 : 0 ≤ j) (h3 : j ≤ 1000) (k : ∀ p H2, New H H2 p (.lst (rgV i j)) → Q (.ref p) H2) : LrA2 (.int i) (.int j) H Q := ⟨i, j, rfl, rfl, RgOk.of_le h0 (by omega) (by omega) h2, x_AlO k⟩
theorem dp_ints {a : Addr} {zs : List Int} (h : H a = some (.lst (zs.map V.int))) : Dp K H (.ref a) (.list (zs.map PyData.int)) := .lst (SqL.of h) (by
  clear h
  induction zs with
  | nil => exact .nil
  | cons z r ih => exact .cons (.int z) ih)
theorem eqv_nil (zs : List Int) : PyData.eqv (.list (zs.map PyData.int)) (.list []) = decide (zs = []) := by
  cases zs with
  | nil => rfl
  | cons z r => rfl
theorem x_neNil {a b : Addr} {zs : List Int} (h : H a = some (.lst (zs.map V.int))) (hb : H b = some (.lst [])) (k : Q (.bl (!decide (zs = []))) H) : rNeD K (.ref a) (.ref b) H Q :=
  ⟨_, .list [], dp_ints h, .lst (SqL.of hb) .nil, PySem.W.ke_shaped_ints _, by decide +kernel, by rw [eqv_nil]; exact k⟩
theorem x_eqNil {a b : Addr} {zs : List Int} (h : H a = some (.lst (zs.map V.int))) (hb : H b = some (.lst [])) (k : Q (.bl (decide (zs = []))) H) : rEqD K (.ref a) (.ref b) H Q :=
  ⟨_, .list [], dp_ints h, .lst (SqL.of hb) .nil, PySem.W.ke_shaped_ints _, by decide +kernel, by rw [eqv_nil]; exact k⟩
end
/-- the places below n that pass, from lo on -/
def gi (n : Nat) (f : Nat → Bool) (lo : Int) : List Int := ((List.range n).filter f).map fun (i : Nat) => lo + (i : Int)
theorem gv_int {n : Nat} {f : Nat → Bool} {lo : Int} : gv n f (fun i => V.int (lo + (i : Int))) = (gi n f lo).map V.int := by
  unfold gv gi
  rw [List.map_map] <;> rfl
theorem mem_gi {n : Nat} {f : Nat → Bool} {lo z : Int} : z ∈ gi n f lo ↔ ∃ i : Nat, i < n ∧ f i = true ∧ z = lo + (i : Int) := by
  unfold gi
  constructor
  · intro h
    obtain ⟨i, hi, e⟩ := List.mem_map.mp h
    obtain ⟨h1, h2⟩ := List.mem_filter.mp hi
    exact ⟨i, List.mem_range.mp h1, h2, e.symm⟩
  · rintro ⟨i, h1, h2, e⟩
    exact List.mem_map.mpr ⟨i, List.mem_filter.mpr ⟨List.mem_range.mpr h1, h2⟩, e.symm⟩
theorem gi_len (n : Nat) (f : Nat → Bool) (lo : Int) : (gi n f lo).length ≤ n := by
  have h := gv_len n f (fun i => V.int (lo + (i : Int)))
  rw [gv_int, List.length_map] at h
  exact h
theorem rgV_int {i j : Int} (h : i ≤ j) : rgV i j = (gi (j - i).toNat (fun _ => true) i).map V.int := by
  rw [← gv_int, gv_all] <;> rfl
end
end K21
end

section
set_option maxRecDepth 100000
set_option maxHeartbeats 4000000
/-! K3: dicts by steps. -/
namespace K21
open PySem PySem.Spec PyProof.Rows L2
noncomputable section
section
variable {σ : L2.St} {H : Hp} {Q : VK} {te td ty tk tv : TE} {t : TT} {K : PySem.W.Frag} {g : TG} {QP : List (V × V) → Hp → Prop} {trs : List (TE × TE)} {n b c : L2.St → Hp → Prop} {rt : VK} {v : V}
def DspA (ps : List (V × V)) (p : Addr) (H : Hp) (Q : VK) : Prop := H p = some (.dK []) ∧ ∃ kvs : List (Key × V), ps = kvs.map (fun kv => (kV kv.1, kv.2)) ∧ kvs.length ≤ 15 ∧ Q (.ref p) (upd H p (.dK (mergeK [] kvs)))
theorem x_disp (k : ∀ p H2, New H H2 p (.dK []) → tPairs trs σ H2 fun ps H3 => DspA ps p H3 Q) : tDisp trs σ H Q := fun p hp => k p _ (New.of hp)
theorem x_pnil (k : QP [] H) : tPairs [] σ H QP := k
theorem x_pcons (k : tk σ H fun x H1 => tv σ H1 fun y H2 => tPairs trs σ H2 fun ps H3 => QP ((x, y) :: ps) H3) : tPairs ((tk, tv) :: trs) σ H QP := k
theorem x_DspA {ps : List (V × V)} {p : Addr} (kvs kvs' : List (Key × V)) (h : H p = some (.dK [])) (e : ps = kvs.map (fun kv => (kV kv.1, kv.2))) (hl : kvs.length ≤ 15) (m : mergeK [] kvs = kvs') (k : ∀ H2, Chg H H2 p (.dK kvs') → Q (.ref p) H2) : DspA ps p H Q :=
  ⟨h, kvs, e, hl, by rw [m]; exact k _ Chg.of⟩
def DgA (x y : V) (H : Hp) (Q : VK) : Prop := ∃ a v, x = .ref a ∧ DGet H a y (some v) ∧ Q v H
theorem x_dget (k : td σ H fun x H1 => ty σ H1 fun y H2 => DgA x y H2 Q) : tDGet td ty σ H Q := k
theorem x_DgA {a : Addr} {kvs : List (Key × V)} {s : Str} (h : H a = some (.dK kvs)) (hv : valV kvs (Sum.inr s) = some v) (q : Q v H) : DgA (.ref a) (.str s) H Q := ⟨a, v, rfl, by rw [← hv]; exact DGet.k (k := Sum.inr s) h, q⟩
def DpA (n : L2.St → Hp → Prop) (σ : L2.St) (v x y : V) (H : Hp) : Prop := ∃ a H4, x = .ref a ∧ DPut H a y v H4 ∧ n σ H4
theorem x_dput (k : tv σ H fun v H1 => td σ H1 fun x H2 => ty σ H2 fun y H3 => DpA n σ v x y H3) : sDPut td ty tv ⟨n, rt, b, c⟩ σ H := k
theorem x_DpA {a : Addr} {kvs : List (Key × V)} {s : Str} (h : H a = some (.dK kvs)) (hl : kvs.length < sizeLine) (k : ∀ H2, Chg H H2 a (.dK (putK kvs (Sum.inr s) v)) → n σ H2) : DpA n σ v (.ref a) (.str s) H :=
  ⟨a, _, rfl, DPut.k (k := Sum.inr s) h hl, k _ Chg.of⟩
end
/-! ### displays with two to four keys -/
theorem kne {a b : Str} (h : ¬ a = b) : ¬ (Sum.inr a : Key) = Sum.inr b := fun e => h (Sum.inr.inj e)
theorem put_new {kvs : List (Key × V)} {k : Key} {v : V} (h : ∀ p ∈ kvs, ¬ p.1 = k) : putK kvs k v = kvs ++ [(k, v)] := by
  unfold putK
  rw [if_neg]
  intro e
  rw [List.any_eq_true] at e
  obtain ⟨p, hp, q⟩ := e
  exact h p hp (of_decide_eq_true q)
theorem merge_nd : ∀ {more kvs : List (Key × V)}, ((kvs ++ more).map (·.1)).Nodup → mergeK kvs more = kvs ++ more
  | [], kvs, _ => by rw [List.append_nil] <;> rfl
  | p :: r, kvs, h => by
    show mergeK (putK kvs p.1 p.2) r = _
    have h1 : ∀ q ∈ kvs, ¬ q.1 = p.1 := by
      intro q hq e
      rw [List.map_append, List.map_cons] at h
      have h2 := (List.nodup_append.mp h).2.2 q.1 (List.mem_map.mpr ⟨q, hq, rfl⟩) p.1 (List.mem_cons_self ..)
      exact h2 e
    rw [put_new h1]
    have e : kvs ++ [(p.1, p.2)] ++ r = kvs ++ p :: r := by rw [List.append_assoc] <;> rfl
    rw [merge_nd (by rw [e]; exact h), e]
theorem merge_ok {kvs : List (Key × V)} (h : (kvs.map (·.1)).Nodup) : mergeK [] kvs = kvs := merge_nd h
/-- a state of the law's walk -/
abbrev stK (a k l : V) : List (Key × V) := [(Sum.inr "at", a), (Sum.inr "kept", k), (Sum.inr "left", l)]
theorem stK_merge (a k l : V) : mergeK [] (stK a k l) = stK a k l := merge_ok (by show ([Sum.inr "at", Sum.inr "kept", Sum.inr "left"] : List Key).Nodup; decide +kernel)
theorem stK_at (a k l : V) : valV (stK a k l) (Sum.inr "at") = some a := valV_pos rfl
theorem stK_kept (a k l : V) : valV (stK a k l) (Sum.inr "kept") = some k := (valV_neg (kne (by decide +kernel))).trans (valV_pos rfl)
theorem stK_left (a k l : V) : valV (stK a k l) (Sum.inr "left") = some l := ((valV_neg (kne (by decide +kernel))).trans (valV_neg (kne (by decide +kernel)))).trans (valV_pos rfl)
end
/-! ### what stood ahead -/
def Old (H : Hp) : Addr → Prop := fun b => H b ≠ none
theorem Pen.dom {H : Hp} {p l : Addr} {B : Int} (h : Pen H p l B) : ∀ b, Pn p l b → H b ≠ none := fun b hb n => h.nPn n hb
theorem Pen.oldN {H H1 H2 : Hp} {p l q : Addr} {B : Int} {o : HO} (h : Pen H1 p l B) (k : Kp (Pn p l) H H1) (n : New H1 H2 q o) : At (Old H) H2 q o := ⟨n.at_, fun z => z (h.back k n.fresh)⟩
theorem Pen.kpO {H H1 H2 : Hp} {p l : Addr} {B : Int} (h : Pen H p l B) (k : Kp (Pn p l) H1 H2) : Kp (Old H) H1 H2 := k.sub fun b hb => .inl (h.dom b hb)
theorem Pen.old {H H1 : Hp} {p l : Addr} {B : Int} (h : Pen H1 p l B) (k : Kp (Pn p l) H H1) : ∀ b, Old H b → Old H1 b := fun b hb n => hb (h.back k n)
theorem Pen.toPn {H : Hp} {p l : Addr} {B : Int} (h : Pen H p l B) {H' : Hp} : ∀ b, Pn p l b → Old H b ∨ H' b = none := fun b hb => .inl (h.dom b hb)
/-! ### tuples stand while a list changes -/
theorem At.chgT {S : Addr → Prop} {H H' : Hp} {r D : Addr} {xs acc : List V} {o : HO} (h : At S H r (.tup xs)) (hD : H D = some (.lst acc)) (c : Chg H H' D o) : At S H' r (.tup xs) := ⟨c.up (ne_of h.1 hD (fun z => nomatch z)) h.1, h.2⟩
theorem WaysAt.chgT {S : Addr → Prop} {H H' : Hp} {D : Addr} {acc : List V} {o : HO} {f : Nat → V} {rs : List Addr} {ws : List (Int × Nat)} (h : WaysAt S H f rs ws) (hD : H D = some (.lst acc)) (c : Chg H H' D o) : WaysAt S H' f rs ws := ⟨h.1, fun i r x a b => (h.2 i r x a b).chgT hD c⟩
theorem WaysAt.snoc {S : Addr → Prop} {H : Hp} {f : Nat → V} {rs : List Addr} {ws : List (Int × Nat)} {r : Addr} {x : Int × Nat} (h : WaysAt S H f rs ws) (hr : At S H r (.tup [.int x.1, f x.2])) : WaysAt S H f (rs ++ [r]) (ws ++ [x]) := by
  refine ⟨by rw [List.length_append, List.length_append, h.1] <;> rfl, fun i q y hq hy => ?_⟩
  rcases snoc_get hq with ⟨h1, h2⟩ | ⟨h1, rfl⟩
  · rcases snoc_get hy with ⟨h3, h4⟩ | ⟨h3, rfl⟩
    · exact h.2 i q y h2 h4
    · have := h.1; omega
  · rcases snoc_get hy with ⟨h3, h4⟩ | ⟨h3, rfl⟩
    · have := h.1; omega
    · exact hr
theorem range_map {α β : Type} (l : List α) (d : α) (f : α → β) : ((List.range l.length).map fun i => f (l.getD i d)) = l.map f := by
  apply List.ext_getElem?
  intro i
  rw [List.getElem?_map, List.getElem?_map]
  by_cases h : i < l.length
  · rw [List.getElem?_range h, List.getElem?_eq_getElem h]
    show some (f (l.getD i d)) = some (f l[i])
    rw [List.getD_eq_getElem?_getD, List.getElem?_eq_getElem h] <;> rfl
  · rw [List.getElem?_eq_none (by rw [List.length_range]; omega), List.getElem?_eq_none (by omega)] <;> rfl
/-- one line more -/
theorem LnsAt.snoc {S : Addr → Prop} {H : Hp} {f : Nat → V} {tu : Bool} {xs : List Addr} {nm : List Str} {ls : List Ln} {q la : Addr} {l : Ln} {n : Str} (h : LnsAt S H f tu xs ⟨nm, ls⟩) (hn : nm[ls.length]? = some n) (hq : At S H q (.tup [.str n, .ref la])) (hl : LnAt S H f tu la l) :
    LnsAt S H f tu (xs ++ [q]) ⟨nm, ls ++ [l]⟩ := by
  have h0 : xs.length = ls.length := h.1
  refine ⟨by show (xs ++ [q]).length = (ls ++ [l]).length; rw [List.length_append, List.length_append, h0] <;> rfl, fun i x n' l' hx hn' hl' => ?_⟩
  have hl' : (ls ++ [l])[i]? = some l' := hl'
  have hn' : nm[i]? = some n' := hn'
  rcases snoc_get hx with ⟨h1, h2⟩ | ⟨h1, rfl⟩
  · rcases snoc_get hl' with ⟨h3, h4⟩ | ⟨h3, rfl⟩
    · exact h.2 i x n' l' h2 hn' h4
    · omega
  · rcases snoc_get hl' with ⟨h3, h4⟩ | ⟨h3, rfl⟩
    · omega
    · subst h3
      rw [hn] at hn'
      cases hn'
      exact ⟨la, hq, hl⟩
/-- the words of drawn lines go as the words do -/
theorem GoOk.of_look {ws ws' : List Wd} (hl : ws'.length = ws.length) (h : ∀ (j : Nat) (x y : Wd), ws[j]? = some x → ws'[j]? = some y → y.look = x.look) {i t : Nat} (g : GoOk ws i t) : GoOk ws' i t := by
  refine ⟨by rw [hl]; exact g.1, fun y hy hk => ?_⟩
  obtain ⟨x, hx⟩ := get_some (l := ws) (i := i) (by have := get_lt hy; omega)
  rcases g.2 x hx (by rw [← h i x y hx hy]; exact hk) with ⟨z, hz, hzl⟩ | q
  · obtain ⟨u, hu⟩ := get_some (l := ws') (i := t) (by have := get_lt hz; omega)
    exact .inl ⟨u, hu, by rw [h t z u hz hu]; exact hzl⟩
  · exact .inr q
/-- runs of cells -/
def RunsAt (S : Addr → Prop) (H : Hp) (rs : List Addr) (us : List (Int × Int)) : Prop := rs.length = us.length ∧ ∀ (i : Nat) (r : Addr) (x : Int × Int), rs[i]? = some r → us[i]? = some x → At S H r (.tup [.int x.1, .int x.2])
section
variable {S S' : Addr → Prop} {H H' : Hp} {rs : List Addr} {us : List (Int × Int)}
theorem RunsAt.up (h : RunsAt S H rs us) (k : Kp S H H') : RunsAt S H' rs us := ⟨h.1, fun i r x a b => (h.2 i r x a b).up k⟩
theorem RunsAt.sub (h : RunsAt S H rs us) (s : ∀ b, S' b → S b ∨ H b = none) : RunsAt S' H rs us := ⟨h.1, fun i r x a b => (h.2 i r x a b).sub s⟩
theorem RunsAt.chgT {D : Addr} {acc : List V} {o : HO} (h : RunsAt S H rs us) (hD : H D = some (.lst acc)) (c : Chg H H' D o) : RunsAt S H' rs us := ⟨h.1, fun i r x a b => (h.2 i r x a b).chgT hD c⟩
theorem RunsAt.snoc {r : Addr} {x : Int × Int} (h : RunsAt S H rs us) (hr : At S H r (.tup [.int x.1, .int x.2])) : RunsAt S H (rs ++ [r]) (us ++ [x]) := by
  refine ⟨by rw [List.length_append, List.length_append, h.1] <;> rfl, fun i q y hq hy => ?_⟩
  rcases snoc_get hq with ⟨h1, h2⟩ | ⟨h1, rfl⟩
  · rcases snoc_get hy with ⟨h3, h4⟩ | ⟨h3, rfl⟩
    · exact h.2 i q y h2 h4
    · have := h.1; omega
  · rcases snoc_get hy with ⟨h3, h4⟩ | ⟨h3, rfl⟩
    · have := h.1; omega
    · exact hr
end
/-- runs as they are drawn -/
def RunsOk (us : List (Int × Int)) : Prop := us.length ≤ 8 ∧ ∀ x ∈ us, 1 ≤ x.1 ∧ x.1 ≤ 10 ^ 30 + 1000 ∧ 0 ≤ x.2 ∧ x.2 ≤ 6
end K21
end

section
set_option maxRecDepth 100000
set_option maxHeartbeats 4000000
/-! K4: dicts whose keys are tuples of None, ints and texts. -/
namespace K21
open PySem PySem.Spec PyProof.Rows L2
noncomputable section
abbrev NK := Option Key
def nV : NK → V
  | none => .non
  | some k => kV k
theorem nV_is {P : Program} {w : World} {k : NK} {u : Value} (r : RelV (nV k) u) : (noneKind P w).is k u = true := by
  cases k with
  | none =>
    cases (show u = Value.none from r)
    exact (rfl : nkIs none .none = true)
  | some k => exact kV_is (P := P) (w := w) (k := k) r
theorem itemsN {P : Program} {w : World} : ∀ {ks : List NK} {us : List Value}, Vals (ks.map nV) us → ItemsAre (noneKind P w) ks us
  | [], _, r => by rw [List.map_nil] at r; cases r; exact .nil
  | k :: ks, _, r => by
    rw [List.map_cons] at r
    cases r with
    | cons h t => exact .cons (nV_is h) (itemsN t)
/-- a dict's entries: key, key's tuple, value -/
abbrev NE := List NK × Addr × V
def valN (kvs : List NE) (k : List NK) : Option V := (kvs.find? fun x => decide (x.1 = k)).map (·.2.2)
abbrev KN : List NE → List (List NK × Addr × Value) → Prop := Paired fun p q => p.1 = q.1 ∧ p.2.1 = q.2.1 ∧ RelV p.2.2 q.2.2
theorem KN.val {kvs : List NE} {xs : List (List NK × Addr × Value)} (r : KN kvs xs) (k : List NK) : RelO (valN kvs k) ((atKey xs k).map (·.2)) := by
  induction r with
  | nil => exact True.intro
  | @cons p q ps qs h t ih =>
    obtain ⟨h1, _, h2⟩ := h
    by_cases e : p.1 = k
    · have e' : q.1 = k := h1.symm.trans e
      have b : atKey (q :: qs) k = some q.2 := by simp [atKey, List.find?_cons, e']
      have c : valN (p :: ps) k = some p.2.2 := by simp [valN, List.find?_cons, e]
      rw [b, c]; exact h2
    · have e' : ¬ q.1 = k := fun z => e (h1.trans z)
      have b : atKey (q :: qs) k = atKey qs k := by simp [atKey, List.find?_cons, e']
      have c : valN (p :: ps) k = valN ps k := by simp [valN, List.find?_cons, e]
      rw [b, c]; exact ih
def NdP (P : Program) (w : World) (a : Addr) (kvs : List NE) (h : Heap) : Prop := kvs.length ≤ sizeLine ∧ (a == sysModules) = false ∧ ∃ xs, KN kvs xs ∧
  ∃ o es ep, h.get? a = some o ∧ o.ExactDict ∧ o.data = .dict es ep ∧ es.toList = xs.map (entryOfKey (tupleKind (noneKind P w))) ∧ (xs.map (·.1)).Nodup
def NdO (P : Program) (w : World) (a : Addr) (kvs : List NE) : HO := .ext (NdP P w a kvs)
/-- the tuples of the keys stand -/
def NKs (H : Hp) (kvs : List NE) : Prop := ∀ x ∈ kvs, H x.2.1 = some (.tup (x.1.map nV))
section
variable {P : Program} {w : World} {H : Hp} {h : Heap} {a : Addr} {kvs : List NE}
theorem NdP.ok (n : NdP P w a kvs h) : ObjOk P w H h a (NdO P w a kvs) := by
  refine ⟨n, ?_, fun h1 h2 x k => ?_⟩
  · obtain ⟨_, _, _, _, o, _, _, e, _⟩ := n
    exact ⟨o, e⟩
  · obtain ⟨z, y, xs, r, o, es, ep, e, c⟩ := x
    exact ⟨z, y, xs, r, o, es, ep, k o e, c⟩
theorem nkey_of {ks : List NK} (ok : HOk P w H h) (e : H a = some (.tup (ks.map nV))) : (tupleKind (noneKind P w)).is h ks a := by
  obtain ⟨_, its, r, o, h1, h2, n, h3⟩ := (show ObjOk P w H h a (.tup (ks.map nV)) from ok a _ e)
  exact ⟨o, its.toArray, n, h1, h2, h3, by simpa using itemsN r⟩
theorem nd_rd (ok : HOk P w H h) (e : H a = some (NdO P w a kvs)) (ks : NKs H kvs) : kvs.length ≤ sizeLine ∧ (a == sysModules) = false ∧ ∃ xs, KN kvs xs ∧ h.DictOfH (tupleKind (noneKind P w)) a xs := by
  obtain ⟨⟨z, y, xs, r, o, es, ep, h1, h2, h3, h4, h5⟩, _⟩ := (show ObjOk P w H h a (NdO P w a kvs) from ok a _ e)
  refine ⟨z, y, xs, r, o, es, ep, h1, h2, h3, h4, fun x hx => ?_, h5⟩
  have all : ∀ {l : List NE} {m : List (List NK × Addr × Value)}, KN l m → (∀ x ∈ l, H x.2.1 = some (.tup (x.1.map nV))) → ∀ x ∈ m, (tupleKind (noneKind P w)).is h x.1 x.2.1 := by
    intro l m q
    induction q with
    | nil => intro _ x hx; exact nomatch hx
    | @cons p q ps qs hq t ih =>
      intro hk x hx
      rcases List.mem_cons.mp hx with e | hx
      · subst e
        have := hk p (List.mem_cons_self ..)
        rw [hq.1, hq.2.1] at this
        exact nkey_of ok this
      · exact ih (fun y hy => hk y (List.mem_cons_of_mem _ hy)) x hx
  exact all r ks x hx
end
section
variable {X : Cx} {pins : List (Addr × Obj)} {σ : L2.St} {H : Hp} {s : Shared} {a q : Addr} {y v : V} {u r : Value} {A : Around} {E : Value → Shared → Prop} {kvs : List NE} {k : List NK}
theorem nd_getItem {Q : Value → Shared → Prop} (hu : A.units + 1 < cLine) (I : Inv X pins σ H s) (e : H a = some (NdO X.prog X.w a kvs)) (ks : NKs H kvs) (eq : H q = some (.tup (k.map nV))) (hv : valN kvs k = some v) (h : ∀ w' s', Inv X pins σ H s' → RelV v w' → Q w' s') :
    wpAny (model X.prog X.w) A (getItem (.ref a) (.ref q)) Q E s := by
  obtain ⟨z, hd, xs, rel, dd⟩ := nd_rd I.hok e ks
  obtain ⟨w', hw, rw'⟩ := RelO.some_of (v := v) (o := (atKey xs k).map (·.2)) (by rw [← hv]; exact rel.val k)
  obtain ⟨p, hp, hp2⟩ := Option.map_eq_some_iff.mp hw
  refine wpAny_getItem_heap (tupleKind_room_in1 hu) (nkey_of I.hok eq) dd hp ?_
  rw [hp2]
  exact h w' _ (I.tok _) rw'
theorem nd_in {Q : Value → Shared → Prop} (hu : A.units + 1 < cLine) (I : Inv X pins σ H s) (e : H a = some (NdO X.prog X.w a kvs)) (ks : NKs H kvs) (eq : H q = some (.tup (k.map nV))) (h : ∀ s', Inv X pins σ H s' → Q (.bool (valN kvs k).isSome) s') :
    wpAny (model X.prog X.w) A (compareOp .In (.ref q) (.ref a)) Q E s := by
  obtain ⟨z, hd, xs, rel, dd⟩ := nd_rd I.hok e ks
  refine wpAny_in_heap (tupleKind_room_in1 hu) (nkey_of I.hok eq) hd dd ?_
  have q := (rel.val k).isSome_eq
  rw [Option.isSome_map] at q
  rw [← q]
  exact h _ (I.tok _)
theorem nd_notIn {Q : Value → Shared → Prop} (hu : A.units + 1 < cLine) (I : Inv X pins σ H s) (e : H a = some (NdO X.prog X.w a kvs)) (ks : NKs H kvs) (eq : H q = some (.tup (k.map nV))) (h : ∀ s', Inv X pins σ H s' → Q (.bool (!(valN kvs k).isSome)) s') :
    wpAny (model X.prog X.w) A (compareOp .NotIn (.ref q) (.ref a)) Q E s := by
  obtain ⟨z, hd, xs, rel, dd⟩ := nd_rd I.hok e ks
  refine wpAny_notIn_heap (tupleKind_room_in1 hu) (nkey_of I.hok eq) hd dd ?_
  have q := (rel.val k).isSome_eq
  rw [Option.isSome_map] at q
  rw [← q]
  exact h _ (I.tok _)
/-- d[q] = v, the key new -/
theorem nd_setItem {Q : Unit → Shared → Prop} (hu : A.units + 1 < cLine) (I : Inv X pins σ H s) (e : H a = some (NdO X.prog X.w a kvs)) (ks : NKs H kvs) (eq : H q = some (.tup (k.map nV))) (hl : kvs.length < sizeLine) (hn : valN kvs k = none) (rv : RelV v r)
    (h : ∀ s', Inv X pins σ (upd H a (NdO X.prog X.w a (kvs ++ [(k, q, v)]))) s' → Q () s') : wpAny (model X.prog X.w) A (setItem (.ref a) (.ref q) r) Q E s := by
  obtain ⟨z, hd, xs, rel, dd⟩ := nd_rd I.hok e ks
  have hz : xs.length ≤ sizeLine := by rw [← Paired.length rel]; exact z
  refine wpAny_setItem_heap (hsz := hz) (tupleKind_room_in1 hu) (nkey_of I.hok eq) dd fun h' dd' hs => h _ ?_
  have hx : atKey xs k = none := by
    have q := (rel.val k).isSome_eq
    rw [Option.isSome_map, hn] at q
    cases hh : atKey xs k with
    | none => rfl
    | some _ => rw [hh] at q; exact nomatch q
  rw [storedH_new hx] at dd'
  obtain ⟨qo, es, ep, hq, h2, h3, h4, _, h5⟩ := dd'
  refine d_write I (by rw [e]; exact True.intro) hs ⟨qo, hq⟩ (NdP.ok ⟨by rw [List.length_append, List.length_singleton]; omega, hd, _, Paired.snoc rel ⟨rfl, rfl, rv⟩, qo, es, ep, hq, h2, h3, h4, h5⟩)
end
/-! ### readings and rules -/
def tDNewN (P : Program) (w : World) : TE := fun _ H Q => ∀ p, H p = none → Q (.ref p) (upd H p (NdO P w p []))
/-- the dict and the key at hand -/
def NdK (P : Program) (w : World) (x y : V) (H : Hp) (kvs : List NE) (k : List NK) : Prop := ∃ a q, x = .ref a ∧ y = .ref q ∧ H a = some (NdO P w a kvs) ∧ NKs H kvs ∧ H q = some (.tup (k.map nV))
def NiA (P : Program) (w : World) (neg : Bool) (x y : V) (H : Hp) (Q : VK) : Prop := ∃ kvs k, NdK P w x y H kvs k ∧ Q (.bl (if neg then !(valN kvs k).isSome else (valN kvs k).isSome)) H
def tNIn (P : Program) (w : World) (neg : Bool) (ty td : TE) : TE := fun σ H Q => ty σ H fun y H1 => td σ H1 fun x H2 => NiA P w neg x y H2 Q
def NgA (P : Program) (w : World) (x y : V) (H : Hp) (Q : VK) : Prop := ∃ kvs k v, NdK P w x y H kvs k ∧ valN kvs k = some v ∧ Q v H
def tNGet (P : Program) (w : World) (td ty : TE) : TE := fun σ H Q => td σ H fun x H1 => ty σ H1 fun y H2 => NgA P w x y H2 Q
def NpA (P : Program) (w : World) (n : L2.St → Hp → Prop) (σ : L2.St) (v x y : V) (H : Hp) : Prop := ∃ a q kvs k, x = .ref a ∧ y = .ref q ∧ H a = some (NdO P w a kvs) ∧ NKs H kvs ∧ H q = some (.tup (k.map nV)) ∧ kvs.length < sizeLine ∧ valN kvs k = none ∧ n σ (upd H a (NdO P w a (kvs ++ [(k, q, v)])))
def sNPut (P : Program) (w : World) (td ty tv : TE) : TS := fun D σ H => tv σ H fun v H1 => td σ H1 fun x H2 => ty σ H2 fun y H3 => NpA P w D.nx σ v x y H3
section
variable {X : Cx} {pos tpos pos' : Pos} {o i value : Expr} {td ty tv : TE}
theorem k_dnewN : PE X (.Dict [] [] pos) (tDNewN X.prog X.w) := ⟨fun pins s σ H Q I h =>
  wpAny_Dict_empty ⟨.ref s.heap.objs.size, _, I.laid (a := s.heap.objs.size) (o := NdO X.prog X.w s.heap.objs.size []) (t' := s.toks) (fun _ _ q => Heap.get?_push_of_some _ q) (Nat.le_refl _)
    (NdP.ok ⟨Nat.zero_le _, beq_eq_false_iff_ne.mpr (Ne.symm (Nat.ne_of_lt I.big)), [], .nil, _, #[], 0, Heap.get?_push_size _ rfl, ⟨rfl, rfl, rfl⟩, rfl, rfl, List.nodup_nil⟩), rfl, h _ (I.hok.fresh (Nat.le_refl _))⟩⟩
theorem k_dinN (hu : X.A.units + 1 < cLine) (hi : PE X i ty) (ho : PE X o td) : PC X .In i o (tNIn X.prog X.w false ty td) := by
  refine ⟨fun pins s σ H Q I h => ?_⟩
  refine thn (hi.run pins s σ H _ I h) fun iv s1 ⟨y, H1, I1, ry, q1⟩ => thn (ho.run pins s1 σ H1 _ I1 q1) fun u s2 ⟨x, H2, I2, rx, kvs, k, ⟨a, q, ex, ey, h1, h2, h3⟩, q2⟩ => ?_
  subst ex ey
  obtain rfl : u = Value.ref a := rx
  obtain rfl : iv = Value.ref q := ry
  exact nd_in hu I2 h1 h2 h3 fun s3 I3 => ⟨.bl (valN kvs k).isSome, H2, I3, rfl, q2⟩
theorem k_dnotinN (hu : X.A.units + 1 < cLine) (hi : PE X i ty) (ho : PE X o td) : PC X .NotIn i o (tNIn X.prog X.w true ty td) := by
  refine ⟨fun pins s σ H Q I h => ?_⟩
  refine thn (hi.run pins s σ H _ I h) fun iv s1 ⟨y, H1, I1, ry, q1⟩ => thn (ho.run pins s1 σ H1 _ I1 q1) fun u s2 ⟨x, H2, I2, rx, kvs, k, ⟨a, q, ex, ey, h1, h2, h3⟩, q2⟩ => ?_
  subst ex ey
  obtain rfl : u = Value.ref a := rx
  obtain rfl : iv = Value.ref q := ry
  exact nd_notIn hu I2 h1 h2 h3 fun s3 I3 => ⟨.bl (!(valN kvs k).isSome), H2, I3, rfl, q2⟩
theorem k_dgetN (hu : X.A.units + 1 < cLine) (ho : PE X o td) (hi : PE X i ty) (hs : NoSl i) : PE X (.Subscript o i pos) (tNGet X.prog X.w td ty) := by
  refine ⟨fun pins s σ H Q I h => ?_⟩
  refine subD_of PySem.F.slot_dict_getitem.lookup hs (thn (ho.run pins s σ H _ I h) fun u s1 ⟨x, H1, I1, rx, q1⟩ => thn (hi.run pins s1 σ H1 _ I1 q1) fun iv s2 ⟨y, H2, I2, ry, kvs, k, v, ⟨a, q, ex, ey, h1, h2, h3⟩, hv, q2⟩ => ?_)
  subst ex ey
  obtain rfl : u = Value.ref a := rx
  obtain rfl : iv = Value.ref q := ry
  refine ⟨?_, nd_getItem hu I2 h1 h2 h3 hv fun w' s3 I3 rw' => ⟨v, H2, I3, rw', q2⟩⟩
  obtain ⟨_, _, xs, _, dd⟩ := nd_rd I2.hok h1 h2
  exact dd.typeIs
theorem k_dputN (hu : X.A.units + 1 < cLine) (ho : PE X o td) (hi : PE X i ty) (hv : PE X value tv) (hs : swapsWith value (some (.Subscript o i pos')) pos.line X.env = pure false) :
    PS X (.Assign [.Subscript o i pos'] value pos) (sNPut X.prog X.w td ty tv) := by
  refine ⟨fun pins s σ H D I h => ?_⟩
  refine wpAny_Assign_Subscript (thn (hv.run pins s σ H _ I h) fun r s1 ⟨v, H1, I1, rv, q1⟩ => thn (ho.run pins s1 σ H1 _ I1 q1) fun u s2 ⟨x, H2, I2, rx, q2⟩ => thn (hi.run pins s2 σ H2 _ I2 q2) fun iv s3 ⟨y, H3, I3, ry, a, q, kvs, k, ex, ey, h1, h2, h3, hl, hn, q3⟩ => ?_) hs
  subst ex ey
  obtain rfl : u = Value.ref a := rx
  obtain rfl : iv = Value.ref q := ry
  exact nd_setItem hu I3 h1 h2 h3 hl hn rv fun s4 I4 => ⟨σ, _, I4, q3⟩
end
section
variable {σ : L2.St} {H : Hp} {Q : VK} {td ty tv : TE} {P : Program} {w : World} {n b c : L2.St → Hp → Prop} {rt : VK} {v : V}
theorem x_dnewN (k : ∀ p H2, New H H2 p (NdO P w p []) → Q (.ref p) H2) : tDNewN P w σ H Q := fun p hp => k p _ (New.of hp)
theorem x_nin {neg : Bool} (k : ty σ H fun y H1 => td σ H1 fun x H2 => NiA P w neg x y H2 Q) : tNIn P w neg ty td σ H Q := k
theorem x_NiA {a q : Addr} {kvs : List NE} {ks : List NK} (h1 : H a = some (NdO P w a kvs)) (h2 : NKs H kvs) (h3 : H q = some (.tup (ks.map nV))) (k : Q (.bl (valN kvs ks).isSome) H) : NiA P w false (.ref a) (.ref q) H Q := ⟨kvs, ks, ⟨a, q, rfl, rfl, h1, h2, h3⟩, k⟩
theorem x_NniA {a q : Addr} {kvs : List NE} {ks : List NK} (h1 : H a = some (NdO P w a kvs)) (h2 : NKs H kvs) (h3 : H q = some (.tup (ks.map nV))) (k : Q (.bl (!(valN kvs ks).isSome)) H) : NiA P w true (.ref a) (.ref q) H Q := ⟨kvs, ks, ⟨a, q, rfl, rfl, h1, h2, h3⟩, k⟩
theorem x_nget (k : td σ H fun x H1 => ty σ H1 fun y H2 => NgA P w x y H2 Q) : tNGet P w td ty σ H Q := k
theorem x_NgA {a q : Addr} {kvs : List NE} {ks : List NK} (h1 : H a = some (NdO P w a kvs)) (h2 : NKs H kvs) (h3 : H q = some (.tup (ks.map nV))) (hv : valN kvs ks = some v) (k : Q v H) : NgA P w (.ref a) (.ref q) H Q := ⟨kvs, ks, v, ⟨a, q, rfl, rfl, h1, h2, h3⟩, hv, k⟩
theorem x_nput (k : tv σ H fun v H1 => td σ H1 fun x H2 => ty σ H2 fun y H3 => NpA P w n σ v x y H3) : sNPut P w td ty tv ⟨n, rt, b, c⟩ σ H := k
theorem x_NpA {a q : Addr} {kvs : List NE} {ks : List NK} (h1 : H a = some (NdO P w a kvs)) (h2 : NKs H kvs) (h3 : H q = some (.tup (ks.map nV))) (hl : kvs.length < sizeLine) (hn : valN kvs ks = none) (k : ∀ H2, Chg H H2 a (NdO P w a (kvs ++ [(ks, q, v)])) → NKs H2 (kvs ++ [(ks, q, v)]) → n σ H2) : NpA P w n σ v (.ref a) (.ref q) H :=
  ⟨a, q, kvs, ks, rfl, rfl, h1, h2, h3, hl, hn, k _ Chg.of fun x hx => by
    rcases List.mem_append.mp hx with hx | hx
    · have h4 := h2 x hx
      rw [upd_ne (ne_of h4 h1 (fun z => nomatch (show HO.tup _ = HO.ext _ from z)))]
      exact h4
    · rw [List.mem_singleton.mp hx]
      rw [upd_ne (ne_of h3 h1 (fun z => nomatch (show HO.tup _ = HO.ext _ from z)))]
      exact h3⟩
theorem NKs.up {H H' : Hp} {kvs : List NE} (h : NKs H kvs) (s : Same H H') : NKs H' kvs := fun x hx => s _ _ (h x hx)
theorem NKs.nil {H : Hp} : NKs H [] := fun _ h => nomatch h
end
end
end K21
end

section
set_option maxRecDepth 100000
set_option maxHeartbeats 4000000
/-! K5: places, books and states in the heap. -/
namespace K21
open PySem PySem.Spec PyProof.Rows L2
theorem New.chg {H H1 H2 : Hp} {p : Addr} {o o' : HO} (n : New H H1 p o) (c : Chg H1 H2 p o') : New H H2 p o' := ⟨Same.chg n.same n.fresh c, c.at_, n.fresh⟩
theorem New.sameL {H H1 H2 : Hp} {p : Addr} {o : HO} (s : Same H H1) (n : New H1 H2 p o) : Same H H2 := s.trans n.same
theorem x_DspS {H : Hp} {Q : VK} {p : Addr} {a k l : V} (h : H p = some (.dK [])) (q : ∀ H2, Chg H H2 p (.dK (stK a k l)) → Q (.ref p) H2) : DspA [(.str "at", a), (.str "kept", k), (.str "left", l)] p H Q :=
  x_DspA (stK a k l) (stK a k l) h rfl (by show 3 ≤ 15; decide) (stK_merge a k l) q
def kO : Option Int → V
  | none => .non
  | some v => .int v
theorem kO_nV (k : Option Int) : kO k = nV (k.map Sum.inl) := by cases k <;> rfl
def nmS (R : Rd) (i : Nat) : Str := R.nm.getD i Str.empty
def atS (R : Rd) : Option Nat → V
  | none => .non
  | some i => .str (nmS R i)
/-- a state of the law's walk -/
abbrev stO (R : Rd) (s : St) : HO := .dK (stK (atS R s.ln) (kO s.kept) (.int s.left))
/-- a book -/
abbrev bkK (R : Rd) (ld : Addr) : List (Key × V) := [(Sum.inr "first", .str (nmS R 0)), (Sum.inr "lines", .ref ld)]
def BookAt (H : Hp) (bk : Addr) (R : Rd) : Prop := ∃ ld kvs, H bk = some (.dK (bkK R ld)) ∧ H ld = some (.dK kvs) ∧ ∀ i ln, R.ln[i]? = some ln → ∃ la, valV kvs (Sum.inr (nmS R i)) = some (.ref la) ∧ LnAt No H (nmV R.nm) false la ln
theorem BookAt.up {H H' : Hp} {bk : Addr} {R : Rd} (h : BookAt H bk R) (s : Same H H') : BookAt H' bk R := by
  obtain ⟨ld, kvs, h1, h2, h3⟩ := h
  refine ⟨ld, kvs, s _ _ h1, s _ _ h2, fun i ln e => ?_⟩
  obtain ⟨la, a, b⟩ := h3 i ln e
  exact ⟨la, a, b.up (Kp.same s)⟩
theorem bkK_first (R : Rd) (ld : Addr) : valV (bkK R ld) (Sum.inr "first") = some (.str (nmS R 0)) := valV_pos rfl
theorem bkK_lines (R : Rd) (ld : Addr) : valV (bkK R ld) (Sum.inr "lines") = some (.ref ld) := (valV_neg (kne (by decide +kernel))).trans (valV_pos rfl)
theorem int_non (v : Int) : decide (V.int v = V.non) = false := decide_eq_false fun z => nomatch z
theorem str_non (v : Str) : decide (V.str v = V.non) = false := decide_eq_false fun z => nomatch z
theorem not_int_non (v : Int) : (!decide (V.int v = V.non)) = true := by rw [int_non] <;> rfl
theorem not_str_non (v : Str) : (!decide (V.str v = V.non)) = true := by rw [str_non] <;> rfl
end K21
end

section
set_option maxRecDepth 100000
set_option maxHeartbeats 4000000
/-! K6: what has been seen. -/
namespace K21
open PySem PySem.Spec PyProof.Rows L2
noncomputable section
theorem Quiet.live {R : Rd} (wf : WF R) {cell : Int} (hc : 0 ≤ cell ∧ cell ≤ 6) {s : St} (h : Live R.ln s) {n : Nat} (q : Quiet R.ln cell n s) : ∀ j, j ≤ n → Live R.ln (iter R.ln cell j s)
  | 0, _ => h
  | j + 1, hj => (iter_ok wf hc (.inr h) (j + 1)).live (evS_none (q j (by omega))).2
theorem iter_ring {L : List Ln} {cell : Int} {s : St} {a d : Nat} (h : iter L cell a s = iter L cell d s) (had : a < d) : ∀ t : Nat, iter L cell (d + t * (d - a)) s = iter L cell d s
  | 0 => by rw [Nat.zero_mul, Nat.add_zero]
  | t + 1 => by
    have e : d + (t + 1) * (d - a) = (d + t * (d - a)) + (d - a) := by rw [Nat.succ_mul]; omega
    rw [e, iter_add, iter_ring h had t, ← h, ← iter_add, show a + (d - a) = d from by omega]
    exact h.symm
/-- quiet for ever -/
theorem quiet_ring {L : List Ln} {cell : Int} {s : St} {a d : Nat} (h : iter L cell a s = iter L cell d s) (had : a < d) (q : Quiet L cell d s) (n : Nat) : Quiet L cell n s := by
  intro j
  induction j using Nat.strongRecOn with
  | ind j ih =>
    intro hj
    by_cases hd : j < d
    · exact q j hd
    · have e : iter L cell j s = iter L cell (a + (j - d)) s := by
        rw [show j = d + (j - d) from by omega, iter_add, ← h, ← iter_add]
        congr 1
        omega
      rw [e]
      exact ih _ (by omega) (by omega)
/-- a place's key in the law's dict -/
def keyL (R : Rd) (s : St) : List NK := [s.ln.map fun i => Sum.inr (nmS R i), s.kept.map Sum.inl, some (Sum.inl s.left)]
/-- and in the program's -/
def lnI : Option Nat → Int
  | none => -1
  | some i => i
def keyP (s : St) : List NK := [some (Sum.inl (lnI s.ln)), s.kept.map Sum.inl, some (Sum.inl s.left)]
theorem keyL_map (R : Rd) (s : St) : (keyL R s).map nV = [atS R s.ln, kO s.kept, .int s.left] := by
  obtain ⟨a, b, c⟩ := s
  cases a <;> cases b <;> rfl
theorem keyP_map (s : St) : (keyP s).map nV = [.int (lnI s.ln), kO s.kept, .int s.left] := by
  obtain ⟨a, b, c⟩ := s
  cases b <;> rfl
theorem map_inl {a b : Option Int} (h : (a.map Sum.inl : NK) = b.map Sum.inl) : a = b := by
  cases a <;> cases b
  · rfl
  · exact nomatch h
  · exact nomatch h
  · rw [Sum.inl.inj (Option.some.inj h)]
theorem keyP_inj {s u : St} (h : keyP s = keyP u) : s = u := by
  obtain ⟨a, b, c⟩ := s
  obtain ⟨a', b', c'⟩ := u
  injection h with h1 h
  injection h with h2 h
  injection h with h3 _
  have h1 : lnI a = lnI a' := Sum.inl.inj (Option.some.inj h1)
  have e2 : b = b' := map_inl h2
  have e3 : c = c' := Sum.inl.inj (Option.some.inj h3)
  have e1 : a = a' := by
    cases a with
    | none => cases a' with
      | none => rfl
      | some j => have h1 : (-1 : Int) = (j : Int) := h1; omega
    | some i => cases a' with
      | none => have h1 : (i : Int) = -1 := h1; omega
      | some j => have h1 : (i : Int) = (j : Int) := h1; congr 1; omega
  rw [e1, e2, e3]
theorem nmS_inj {R : Rd} (wf : WF R) {i j : Nat} (hi : i < R.ln.length) (hj : j < R.ln.length) (h : nmS R i = nmS R j) : i = j := by
  have hl := wf.len
  have e1 : R.nm.getD i Str.empty = R.nm[i] := by rw [List.getD_eq_getElem?_getD, List.getElem?_eq_getElem] <;> rfl
  have e2 : R.nm.getD j Str.empty = R.nm[j] := by rw [List.getD_eq_getElem?_getD, List.getElem?_eq_getElem] <;> rfl
  unfold nmS at h
  rw [e1, e2] at h
  have pw := List.pairwise_iff_getElem.mp wf.ns.nd
  rcases Nat.lt_trichotomy i j with c | c | c
  · exact absurd h (pw i j (by omega) (by omega) c)
  · exact c
  · exact absurd h.symm (pw j i (by omega) (by omega) c)
theorem keyL_inj {R : Rd} (wf : WF R) {s u : St} (hs : Live R.ln s) (hu : Live R.ln u) (h : keyL R s = keyL R u) : s = u := by
  obtain ⟨i, l, a1, a2, _⟩ := hs
  obtain ⟨j, l', b1, b2, _⟩ := hu
  obtain ⟨a, b, c⟩ := s
  obtain ⟨a', b', c'⟩ := u
  cases a1
  cases b1
  injection h with h1 h
  injection h with h2 h
  injection h with h3 _
  have h1 : nmS R i = nmS R j := Sum.inr.inj (Option.some.inj h1)
  have e2 : b = b' := map_inl h2
  have e3 : c = c' := Sum.inl.inj (Option.some.inj h3)
  rw [nmS_inj wf (get_lt a2) (get_lt b2) h1, e2, e3]
abbrev SE := Nat × Addr × V
def kvOf (key : St → List NK) (L : List Ln) (cell : Int) (s : St) (es : List SE) : List NE := es.map fun e => (key (iter L cell e.1 s), e.2.1, e.2.2)
/-- the dict of what has been seen ahead of the d-th step -/
structure SD (P : Program) (w : World) (key : St → List NK) (L : List Ln) (cell : Int) (s : St) (H : Hp) (se : Addr) (es : List SE) (d : Nat) : Prop where
  at_ : H se = some (NdO P w se (kvOf key L cell s es))
  ks : NKs H (kvOf key L cell s es)
  lt : ∀ e ∈ es, e.1 < d
  nd : (es.map fun e => iter L cell e.1 s).Nodup
section
variable {P : Program} {w : World} {key : St → List NK} {L : List Ln} {cell : Int} {s : St} {H H' : Hp} {se : Addr} {es : List SE} {d : Nat}
theorem SD.nil (n : New H H' se (NdO P w se [])) : SD P w key L cell s H' se [] d := ⟨n.at_, NKs.nil, (fun _ h => nomatch h), List.nodup_nil⟩
theorem SD.up (h : SD P w key L cell s H se es d) (k : Same H H') : SD P w key L cell s H' se es d := ⟨k _ _ h.at_, h.ks.up k, h.lt, h.nd⟩
theorem SD.mono (h : SD P w key L cell s H se es d) {d' : Nat} (hd : d ≤ d') : SD P w key L cell s H se es d' := ⟨h.at_, h.ks, fun e he => by have := h.lt e he; omega, h.nd⟩
theorem valN_none {es : List SE} {k : List NK} (h : valN (kvOf key L cell s es) k = none) : ∀ e ∈ es, key (iter L cell e.1 s) ≠ k := by
  intro e he z
  unfold valN kvOf at h
  rw [Option.map_eq_none_iff, List.find?_eq_none] at h
  exact h _ (List.mem_map.mpr ⟨e, he, rfl⟩) (decide_eq_true z)
theorem valN_some {es : List SE} {k : List NK} {v : V} (h : valN (kvOf key L cell s es) k = some v) : ∃ e ∈ es, e.2.2 = v ∧ key (iter L cell e.1 s) = k := by
  unfold valN kvOf at h
  obtain ⟨x, hx, e⟩ := Option.map_eq_some_iff.mp h
  have h1 := List.find?_some hx
  obtain ⟨y, hy, e2⟩ := List.mem_map.mp (List.mem_of_find?_eq_some hx)
  subst e2
  exact ⟨y, hy, e, of_decide_eq_true h1⟩
theorem SD.put (h : SD P w key L cell s H se es d) (hn : valN (kvOf key L cell s es) (key (iter L cell d s)) = none) {q : Addr} {v : V} (c : H' se = some (NdO P w se (kvOf key L cell s es ++ [(key (iter L cell d s), q, v)])))
    (ks : NKs H' (kvOf key L cell s es ++ [(key (iter L cell d s), q, v)])) {d' : Nat} (hd : d < d') : SD P w key L cell s H' se (es ++ [(d, q, v)]) d' := by
  have e : kvOf key L cell s (es ++ [(d, q, v)]) = kvOf key L cell s es ++ [(key (iter L cell d s), q, v)] := by unfold kvOf; rw [List.map_append] <;> rfl
  refine ⟨by rw [e]; exact c, by rw [e]; exact ks, fun x hx => ?_, ?_⟩
  · rcases List.mem_append.mp hx with hx | hx
    · have := h.lt x hx; omega
    · rw [List.mem_singleton.mp hx]; exact hd
  · rw [List.map_append, List.nodup_append]
    refine ⟨h.nd, by simp, fun a ha b hb => ?_⟩
    obtain ⟨x, hx, e1⟩ := List.mem_map.mp ha
    have hb := List.mem_singleton.mp hb
    intro z
    rw [z, hb] at e1
    exact valN_none hn x hx (congrArg key e1)
theorem SD.len {R : Rd} {n : Nat} (wf : WF R) (hc : 0 ≤ cell ∧ cell ≤ 6) (hs : Live R.ln s) (h : SD P w key R.ln cell s H se es d) (q : Quiet R.ln cell n s) (hd : d ≤ n) : es.length ≤ 256 := by
  have := places wf h.nd fun x hx => by
    obtain ⟨e, he, e1⟩ := List.mem_map.mp hx
    rw [← e1]
    exact q.live wf hc hs _ (by have := h.lt e he; omega)
  rw [List.length_map] at this
  exact this
end
end
end K21
end

section
set_option maxRecDepth 100000
set_option maxHeartbeats 0
namespace K21
open PySem PySem.Spec PyProof.Rows L2
noncomputable section
def spLaw (K : PySem.W.Frag) : Sp := fun vs H Q _ => ∃ (a : Addr) (zs : List Int), vs = [.ref a] ∧ SqL K H a (zs.map V.int) ∧ zs.length ≤ 63 ∧ ∀ H', Q (.bl true) H'
/-- what is left to show of the law's function -/
def Left : Prop := ∀ {w : World} {K : PySem.W.Frag} {h : Heap} {mg : Str → Option Value} {f : Addr}, K.In h → h.Ns mainGlobals mg → mg ("law" : Str) = some (.ref f) → SaysK fas fns tbs exs w K →
    ∃ fd : FuncData, (∀ (s : Shared) (v : Value), BindsTo s fd ⟨[v], []⟩ [("_law_script", v)]) ∧ ∀ base : Heap, K.In base → base.Ns mainGlobals mg → FnOk (PySem.Challenge.rw_splitalike_k21_whole_far_partings).prog w K mg base L2.CX0 10 f fd ["_law_script"] (spLaw K)
end
end K21
section
open PySem PySem.W PySem.Calls PyProof.Rows
theorem K21.holds_of (left : K21.Left) : PySem.Challenge.rw_splitalike_k21_whole_far_partings.Holds := by
  w_on; o_law
  refine HandSHeadRun.head_any (r := OpenLaw.row PySem.Challenge.rw_splitalike_k21_whole_far_partings) (q := view (OpenLaw.row PySem.Challenge.rw_splitalike_k21_whole_far_partings).prog [72]) (H := K21.hk) (ob := K21.ob) (M := 8000) (loose := K21.names) (d := HandSHeadRun.topDef (OpenLaw.row PySem.Challenge.rw_splitalike_k21_whole_far_partings).prog 72) (kwd := []) K21.ob_eq
    (by kernel_rfl) (fun s => by kernel_rfl) K21.run (by kernel_rfl) (by kernel_rfl) (by kernel_rfl) (by rfl) (by first | assumption | decide +kernel) (by decide +kernel) ⟨rfl, rfl, rfl, rfl, rfl, by decide +kernel⟩ ?hw ?hc
  case hw => w_witness2
  case hc =>
    refine L2.walk_ofE (l := PySem.Challenge.rw_splitalike_k21_whole_far_partings) (n := 63) (k := 10) (x := "_law_script") (CX := L2.CX0) rfl (by decide) (by kernel_rfl) ⟨rfl, by decide, by decide⟩ ?F (fun _ _ _ _ z => z)
    intro w mg fa h Y G hmg0
    obtain ⟨K, KX, c⟩ := Y
    have hmg : mg ("law" : PySem.Str) = some (.ref fa) := by
      have e : (HandSHeadRun.topDef (OpenLaw.row PySem.Challenge.rw_splitalike_k21_whole_far_partings).prog 72).name = ("law" : PySem.Str) := by kernel_rfl
      rw [← e]
      exact hmg0
    obtain ⟨fd, hb, hF⟩ := left KX G hmg c
    exact ⟨K, fd, K21.spLaw K, KX, hb, fun H a ns hl _ hS => ⟨a, ns, rfl, hS, hl, fun _ => rfl⟩, hF⟩
end
end

section
set_option maxRecDepth 100000
set_option maxHeartbeats 4000000
namespace K21
open PySem PySem.Spec PyProof.Rows L2
noncomputable section
local macro_rules | `(tactic| walk_at "hp") => `(tactic| first
  | assumption
  | ((with_reducible refine' At.h ?q); (case q => assumption))
  | ((with_reducible refine' New.at_ ?q); (case q => assumption))
  | ((with_reducible refine' Chg.at_ ?q); (case q => assumption))
  | ((with_reducible refine' New.up ?n ?q); (case n => assumption); (case q => walk_at "hp"))
  | ((with_reducible refine' Same.up ?n ?q); (case n => assumption); (case q => walk_at "hp")))
local macro_rules | `(tactic| walk_at "sz") => `(tactic| first | exact Nat.le_of_ble_eq_true rfl | assumption | omega)
local macro_rules | `(tactic| walk_at "i") => `(tactic| first
  | with_reducible refine' x_I0 ?_
  | ((with_reducible refine' x_I ?c ?_); (case c => first | (show (_ : Int) ≠ 0; omega) | exact .inr ⟨by decide, by decide⟩ | exact .inl ⟨by decide, by decide⟩ | (refine ⟨?_, ?_⟩ <;> first | decide | omega)))
  | with_reducible refine' x_eqI ?_
  | with_reducible refine' x_neI ?_
  | with_reducible refine' x_eqS ?_
  | with_reducible refine' x_neS ?_
  | with_reducible refine' x_isN ?_
  | with_reducible refine' x_notN ?_
  | with_reducible refine' x_U ?_
  | with_reducible refine' x_int ?_
  | with_reducible refine' x_intB ?_
  | with_reducible refine' x_min2 ?_
  | with_reducible refine' x_max2 ?_
  | ((with_reducible refine' x_ixLh ?h ?v ?_); (case h => walk_at "hp"); (case v => first | exact rfl | assumption))
  | ((with_reducible refine' x_ixTh ?h ?v ?_); (case h => walk_at "hp"); (case v => first | exact rfl | assumption))
  | ((with_reducible refine' x_lenL ?h ?_); (case h => walk_at "hp"))
  | ((with_reducible refine' x_lenT ?h ?_); (case h => walk_at "hp"))
  | ((with_reducible refine' x_gtuph ?h ?l ?_); (case h => walk_at "hp"); (case l => exact rfl))
  | ((with_reducible refine' x_BmAh ?h ?_); (case h => walk_at "hp"))
  | ((with_reducible refine' x_BmA0h ?h ?_); (case h => walk_at "hp"))
  | ((with_reducible refine' x_inStr ?h ?_); (case h => walk_at "hp"))
  | ((with_reducible refine' x_ninStr ?h ?_); (case h => walk_at "hp"))
  | ((with_reducible refine' x_inInt ?h ?_); (case h => walk_at "hp"))
  | ((with_reducible refine' x_ninInt ?h ?_); (case h => walk_at "hp"))
  | ((with_reducible refine' x_inL ?h ?f ?g ?_); (case h => walk_at "hp"); (case f => exact rfl); (case g => first | exact rfl | assumption))
  | ((with_reducible refine' x_inT ?h ?f ?g ?_); (case h => walk_at "hp"); (case f => exact rfl); (case g => first | exact rfl | assumption))
  | ((with_reducible refine' x_notInL ?h ?f ?g ?_); (case h => walk_at "hp"); (case f => exact rfl); (case g => first | exact rfl | assumption))
  | ((with_reducible refine' x_setL ?h ?j ?_); (case h => walk_at "hp"); (case j => first | exact rfl | assumption))
  | ((with_reducible refine' x_append ?h ?l ?_); (case h => walk_at "hp"); (case l => walk_at "sz"))
  | ((with_reducible refine' x_neNil ?h ?g ?_); (case h => walk_at "hp"); (case g => walk_at "hp"))
  | ((with_reducible refine' x_eqNil ?h ?g ?_); (case h => walk_at "hp"); (case g => walk_at "hp"))
  | ((with_reducible refine' x_DgA ?h ?v ?_); (case h => walk_at "hp"); (case v => first | exact stK_at _ _ _ | exact stK_kept _ _ _ | exact stK_left _ _ _ | assumption))
  | ((with_reducible refine' x_AlT ?h ?_); (case h => walk_at "sz"))
  | ((with_reducible refine' x_AlL ?h ?_); (case h => walk_at "sz"))
  | ((with_reducible refine' x_Rg1 ?a ?b ?_); (case a => omega); (case b => omega))
  | ((with_reducible refine' x_Rg2 ?a ?b ?c ?d ?_); (case a => omega); (case b => omega); (case c => omega); (case d => omega))
  | with_reducible refine' x_AlO ?_)
local macro_rules | `(tactic| walk_at "s") => `(tactic| first
  | with_reducible refine' x_seq ?_
  | with_reducible refine' x_asg ?_
  | with_reducible refine' x_gname ?_
  | ((with_reducible refine' x_var ?h ?_); (case h => exact rfl))
  | with_reducible refine' x_c ?_
  | with_reducible refine' x_op ?_
  | with_reducible refine' x_cons ?_
  | with_reducible refine' x_nil ?_
  | with_reducible refine' x_cb ?_
  | with_reducible refine' x_ret ?_
  | with_reducible refine' x_ifS ?_
  | with_reducible refine' x_test ?_
  | with_reducible refine' x_B ?_
  | with_reducible refine' x_bl ?_
  | with_reducible refine' x_if ?_
  | with_reducible refine' x_call ?_
  | with_reducible refine' x_tup ?_
  | with_reducible refine' x_lst ?_
  | with_reducible refine' x_gcons ?_
  | with_reducible refine' x_gnil ?_
  | with_reducible refine' x_gsub ?_
  | with_reducible refine' x_next ?_
  | with_reducible refine' x_drop ?_
  | with_reducible refine' x_and ?_
  | with_reducible refine' x_or ?_
  | with_reducible refine' x_not ?_
  | with_reducible refine' x_andV ?_
  | with_reducible refine' x_orV ?_
  | with_reducible refine' x_un ?_
  | with_reducible refine' x_chain ?_
  | with_reducible refine' x_sfld ?_
  | with_reducible refine' x_par ?_
  | with_reducible refine' x_par2 ?_
  | with_reducible refine' x_par3 ?_
  | with_reducible refine' x_par33 ?_
  | with_reducible refine' x_fld ?_
  | with_reducible refine' x_meth ?_
  | with_reducible refine' x_bm ?_
  | with_reducible refine' x_bm0 ?_
  | with_reducible refine' x_forL ?_
  | with_reducible refine' x_forT ?_
  | with_reducible refine' x_forR1 ?_
  | with_reducible refine' x_forR2 ?_
  | with_reducible refine' x_lcL ?_
  | with_reducible refine' x_lcT ?_
  | with_reducible refine' x_lcR1 ?_
  | with_reducible refine' x_lcR2 ?_
  | with_reducible refine' x_dnew ?_
  | with_reducible refine' x_retN ?_
  | with_reducible refine' x_ff ?_
  | with_reducible refine' x_lrg1 ?_
  | with_reducible refine' x_disp ?_
  | with_reducible refine' x_pnil ?_
  | with_reducible refine' x_pcons ?_
  | with_reducible refine' x_dget ?_
  | with_reducible refine' x_dput ?_
  | ((with_reducible refine' x_yes ?e ?_); (case e => decide +kernel))
  | ((with_reducible refine' x_no ?e ?_); (case e => decide +kernel))
  | with_reducible refine' x_lrg2 ?_
  | with_reducible refine' x_tt ?_
  | with_reducible refine' x_break ?_
  | walk_at "i")

def Nsc_law_draw : List Str := ["_law_pen", "_law_many", "_law_spot", "_law_at", "_law_cell", "_law_mixed"]
theorem sc_law_draw : FnScope Nsc_law_draw ["_law_pen", "_law_many"] (defScope (topS 53)) := ⟨rfl, rfl, rfl, by decide +kernel, rfl, by decide +kernel, by decide +kernel⟩
def Nsc_law_pick : List Str := ["_law_pen", "_law_row"]
theorem sc_law_pick : FnScope Nsc_law_pick ["_law_pen", "_law_row"] (defScope (topS 54)) := ⟨rfl, rfl, rfl, by decide +kernel, rfl, by decide +kernel, by decide +kernel⟩
section
variable {P : Program} {w : World} {K : PySem.W.Frag} {mg : Str → Option Value} {base : Heap}
def spDraw : Sp := fun vs H Q _ => ∃ (p l : Addr) (m B : Int), vs = [.ref p, .int m] ∧ Pen H p l B ∧ 0 < m ∧ m < 1000000 ∧ B ≤ 1000000 ∧
  ∀ (r : Int) (H' : Hp), 0 ≤ r → r < m → Pen H' p l (B + 1) → Kp (Pn p l) H H' → Q (.int r) H'
/-- an item of a list that is not the pen's -/
def spPick : Sp := fun vs H Q _ => ∃ (p l : Addr) (B : Int) (a : Addr) (xs : List V), vs = [.ref p, .ref a] ∧ Pen H p l B ∧ At (Pn p l) H a (.lst xs) ∧ 0 < xs.length ∧ xs.length < 1000 ∧ B ≤ 1000000 ∧
  ∀ (j : Nat) (v : V) (H' : Hp), xs[j]? = some v → Pen H' p l (B + 1) → Kp (Pn p l) H H' → Q v H'
theorem ok_draw {f : Addr} {fd : FuncData} (F : L2.Fun K "_law_draw" "_law_draw" (topS 53) f fd) (m : mg "_law_draw" = some (.ref f)) (b : Binds K fd ["_law_pen", "_law_many"] []) (G : Gm K mg) : C8.Cal P w K mg base 1 "_law_draw" spDraw [] := by
  refine calN F m b sc_law_draw (fun vs H Q E h => ?_) (fun cdv A outer s H vs Q E hr h => ?_)
  · obtain ⟨p, l, m, B, rfl, _⟩ := h
    rfl
  obtain ⟨p, l, m, B, rfl, ⟨⟨ns, spot, hp, hl, n0, n1, s0, s1⟩, ne⟩, m0, m1, hB, k⟩ := h
  refine ⟨_, (pss_cons (ps_set (i := 2) sc_law_draw.nd rfl (Or.inl rfl) (pe_ix ix_list (pv 0) pe_int (fun _ _ => rfl))) (pss_cons (ps_asg (pe_op op_add (pv 2) pe_int) (pg_sub (pv 0) pe_int set_list)) (pss_cons (ps_set (i := 3) sc_law_draw.nd rfl (Or.inl rfl) (pe_op op_modN (pe_callTy k_int (by rfl) G.int (by decide +kernel) (pa_cons (pv 2) pa_nil)) (pe_callB k_len (by rfl) G.len PySem.boot_len (pa_cons (pe_ix ix_list (pv 0) pe_int (fun _ _ => rfl)) pa_nil)))) (pss_cons (ps_set (i := 4) sc_law_draw.nd rfl (Or.inl rfl) (pe_callTy k_int (by rfl) G.int (by decide +kernel) (pa_cons (pe_ix ix_list (pe_ix ix_list (pv 0) pe_int (fun _ _ => rfl)) (pv 3) (fun _ _ => rfl)) pa_nil))) (pss_cons (ps_if (pt_cmpR op_ge (pv 4) (pe_op op_pow pe_int pe_int) (nomark _)) (pss_cons (ps_asg (pe_op op_fdivN (pv 4) (pv 1)) (pg_sub (pe_ix ix_list (pv 0) pe_int (fun _ _ => rfl)) (pv 3) set_list)) (pss_one (ps_ret (pe_op op_modN (pe_callTy k_int (by rfl) G.int (by decide +kernel) (pa_cons (pv 4) pa_nil)) (pv 1))))) pss_nil) (pss_cons (ps_set (i := 5) sc_law_draw.nd rfl (Or.inl rfl) (pe_op op_pow (pe_callTy k_int (by rfl) G.int (by decide +kernel) (pa_cons (pe_op op_add (pe_op op_add (pe_op op_mul (pe_op op_modN (pe_callTy k_int (by rfl) G.int (by decide +kernel) (pa_cons (pv 4) pa_nil)) pe_int) pe_int) (pe_op op_mul (pv 2) pe_int)) pe_int) pa_nil)) pe_int)) (pss_one (ps_ret (pe_op op_modN (pe_op op_fdivN (pe_callTy k_int (by rfl) G.int (by decide +kernel) (pa_cons (pe_op op_modN (pe_callTy k_int (by rfl) G.int (by decide +kernel) (pa_cons (pv 5) pa_nil)) pe_int) pa_nil)) pe_int) (pv 1)))))))))), ?_⟩
  rw [show L2.start Nsc_law_draw [.ref p, .int m] = [some (.ref p), some (.int m), none, none, none, none] from rfl]; try simp only [cxK, cxK2, cxP, cxW, cxPn, cxWn]
  repeat walk_at "s"


  intro H2 c2
  have hl2 := c2.up ne.symm hl
  have nl : 0 < (List.map V.int ns).length := by rw [List.length_map]; exact n0
  have f0 : 0 ≤ spot.fmod (List.map V.int ns).length := Int.fmod_nonneg s0 (by omega)
  have f1 : spot.fmod (List.map V.int ns).length < (List.map V.int ns).length := Int.fmod_lt_of_pos _ (by omega)
  obtain ⟨j, hj⟩ : ∃ j : Nat, spot.fmod (List.map V.int ns).length = (j : Int) := ⟨_, (Int.toNat_of_nonneg f0).symm⟩
  have hjl : j < ns.length := by rw [List.length_map] at f1 hj; omega
  have hv : atI (List.map V.int ns) (spot.fmod (List.map V.int ns).length) = some (.int ns[j]) := at_of hj (by rw [List.getElem?_map, List.getElem?_eq_getElem hjl] <;> rfl)
  have hix : ixN (List.map V.int ns).length (spot.fmod (List.map V.int ns).length) = some j := by
    unfold ixN
    rw [if_pos f0, if_pos f1, hj] <;> rfl
  have kp2 : Kp (Pn p l) H H2 := c2.kpS (.inl rfl)
  repeat walk_at "s"
  refine x_ite (fun _ => ?_) (fun _ => ?_)
  · repeat walk_at "s"
    intro H3 c3
    repeat walk_at "s"
    refine k _ _ (Int.fmod_nonneg_of_pos _ m0) (Int.fmod_lt_of_pos _ m0) ⟨⟨ns.set j (ns[j].fdiv m), spot + 1, c3.up ne c2.at_, ?_, ?_, ?_, ?_, ?_⟩, ne⟩ (kp2.trans (c3.kpS (.inr rfl)))
    · rw [List.map_set]; exact c3.at_
    · rw [List.length_set]; exact n0
    · rw [List.length_set]; exact n1
    · omega
    · omega
  · have g0 : 0 ≤ ns[j].fmod 1000000007 := Int.fmod_nonneg_of_pos _ (by decide)
    have g1 : ns[j].fmod 1000000007 < 1000000007 := Int.fmod_lt_of_pos _ (by decide)
    repeat walk_at "s"
    refine k _ _ (Int.fmod_nonneg_of_pos _ m0) (Int.fmod_lt_of_pos _ m0) ⟨⟨ns, spot + 1, c2.at_, hl2, n0, n1, by omega, by omega⟩, ne⟩ kp2
theorem ok_pick {f : Addr} {fd : FuncData} (F : L2.Fun K "_law_pick" "_law_pick" (topS 54) f fd) (m : mg "_law_pick" = some (.ref f)) (b : Binds K fd ["_law_pen", "_law_row"] []) (G : Gm K mg) (c__law_draw : C8.Cal P w K mg base 1 "_law_draw" spDraw []) : C8.Cal P w K mg base 2 "_law_pick" spPick [] := by
  refine calN F m b sc_law_pick (fun vs H Q E h => ?_) (fun cdv A outer s H vs Q E hr h => ?_)
  · obtain ⟨p, l, B, a, xs, rfl, _⟩ := h
    rfl
  obtain ⟨p, l, B, a, xs, rfl, hP, ⟨ha, na⟩, h0, h1, hB, k⟩ := h
  refine ⟨_, (pss_one (ps_ret (pe_ix ix_list (pv 1) (C8.pe_c c__law_draw hr (by decide) rfl (pa_cons (pv 0) (pa_cons (pe_callB k_len (by rfl) G.len PySem.boot_len (pa_cons (pv 1) pa_nil)) pa_nil))) (fun _ _ => rfl)))), ?_⟩
  rw [show L2.start Nsc_law_pick [.ref p, .ref a] = [some (.ref p), some (.ref a)] from rfl]; try simp only [cxK, cxK2, cxP, cxW, cxPn, cxWn]
  repeat walk_at "s"
  refine ⟨p, l, _, B, rfl, hP, by omega, by omega, hB, fun r H' r0 r1 hP' kp => ?_⟩
  obtain ⟨j, rfl⟩ : ∃ j : Nat, r = (j : Int) := ⟨r.toNat, by omega⟩
  have ha' := kp _ _ na ha
  have hj : j < xs.length := by omega
  have hv : atI xs (j : Int) = some xs[j] := atI_nat (List.getElem?_eq_getElem hj)
  repeat walk_at "s"
  exact k j _ H' (List.getElem?_eq_getElem hj) hP' kp
end
end
end K21
end

section
set_option maxRecDepth 100000
set_option maxHeartbeats 4000000
namespace K21
open PySem PySem.Spec PyProof.Rows L2
noncomputable section
local macro_rules | `(tactic| walk_at "hp") => `(tactic| first
  | assumption
  | ((with_reducible refine' At.h ?q); (case q => assumption))
  | ((with_reducible refine' New.at_ ?q); (case q => assumption))
  | ((with_reducible refine' Chg.at_ ?q); (case q => assumption))
  | ((with_reducible refine' New.up ?n ?q); (case n => assumption); (case q => walk_at "hp"))
  | ((with_reducible refine' Same.up ?n ?q); (case n => assumption); (case q => walk_at "hp")))
local macro_rules | `(tactic| walk_at "sz") => `(tactic| first | exact Nat.le_of_ble_eq_true rfl | assumption | omega)
local macro_rules | `(tactic| walk_at "i") => `(tactic| first
  | with_reducible refine' x_I0 ?_
  | ((with_reducible refine' x_I ?c ?_); (case c => first | (show (_ : Int) ≠ 0; omega) | exact .inr ⟨by decide, by decide⟩ | exact .inl ⟨by decide, by decide⟩ | (refine ⟨?_, ?_⟩ <;> first | decide | omega)))
  | with_reducible refine' x_eqI ?_
  | with_reducible refine' x_neI ?_
  | with_reducible refine' x_eqS ?_
  | with_reducible refine' x_neS ?_
  | with_reducible refine' x_isN ?_
  | with_reducible refine' x_notN ?_
  | with_reducible refine' x_U ?_
  | with_reducible refine' x_int ?_
  | with_reducible refine' x_intB ?_
  | with_reducible refine' x_min2 ?_
  | with_reducible refine' x_max2 ?_
  | ((with_reducible refine' x_ixLh ?h ?v ?_); (case h => walk_at "hp"); (case v => first | exact rfl | assumption))
  | ((with_reducible refine' x_ixTh ?h ?v ?_); (case h => walk_at "hp"); (case v => first | exact rfl | assumption))
  | ((with_reducible refine' x_lenL ?h ?_); (case h => walk_at "hp"))
  | ((with_reducible refine' x_lenT ?h ?_); (case h => walk_at "hp"))
  | ((with_reducible refine' x_gtuph ?h ?l ?_); (case h => walk_at "hp"); (case l => exact rfl))
  | ((with_reducible refine' x_BmAh ?h ?_); (case h => walk_at "hp"))
  | ((with_reducible refine' x_BmA0h ?h ?_); (case h => walk_at "hp"))
  | ((with_reducible refine' x_inStr ?h ?_); (case h => walk_at "hp"))
  | ((with_reducible refine' x_ninStr ?h ?_); (case h => walk_at "hp"))
  | ((with_reducible refine' x_inInt ?h ?_); (case h => walk_at "hp"))
  | ((with_reducible refine' x_ninInt ?h ?_); (case h => walk_at "hp"))
  | ((with_reducible refine' x_inL ?h ?f ?g ?_); (case h => walk_at "hp"); (case f => exact rfl); (case g => first | exact rfl | assumption))
  | ((with_reducible refine' x_inT ?h ?f ?g ?_); (case h => walk_at "hp"); (case f => exact rfl); (case g => first | exact rfl | assumption))
  | ((with_reducible refine' x_notInL ?h ?f ?g ?_); (case h => walk_at "hp"); (case f => exact rfl); (case g => first | exact rfl | assumption))
  | ((with_reducible refine' x_setL ?h ?j ?_); (case h => walk_at "hp"); (case j => first | exact rfl | assumption))
  | ((with_reducible refine' x_append ?h ?l ?_); (case h => walk_at "hp"); (case l => walk_at "sz"))
  | ((with_reducible refine' x_neNil ?h ?g ?_); (case h => walk_at "hp"); (case g => walk_at "hp"))
  | ((with_reducible refine' x_eqNil ?h ?g ?_); (case h => walk_at "hp"); (case g => walk_at "hp"))
  | ((with_reducible refine' x_DgA ?h ?v ?_); (case h => walk_at "hp"); (case v => first | exact stK_at _ _ _ | exact stK_kept _ _ _ | exact stK_left _ _ _ | assumption))
  | ((with_reducible refine' x_AlT ?h ?_); (case h => walk_at "sz"))
  | ((with_reducible refine' x_AlL ?h ?_); (case h => walk_at "sz"))
  | ((with_reducible refine' x_Rg1 ?a ?b ?_); (case a => omega); (case b => omega))
  | ((with_reducible refine' x_Rg2 ?a ?b ?c ?d ?_); (case a => omega); (case b => omega); (case c => omega); (case d => omega))
  | with_reducible refine' x_AlO ?_)
local macro_rules | `(tactic| walk_at "s") => `(tactic| first
  | with_reducible refine' x_seq ?_
  | with_reducible refine' x_asg ?_
  | with_reducible refine' x_gname ?_
  | ((with_reducible refine' x_var ?h ?_); (case h => exact rfl))
  | with_reducible refine' x_c ?_
  | with_reducible refine' x_op ?_
  | with_reducible refine' x_cons ?_
  | with_reducible refine' x_nil ?_
  | with_reducible refine' x_cb ?_
  | with_reducible refine' x_ret ?_
  | with_reducible refine' x_ifS ?_
  | with_reducible refine' x_test ?_
  | with_reducible refine' x_B ?_
  | with_reducible refine' x_bl ?_
  | with_reducible refine' x_if ?_
  | with_reducible refine' x_call ?_
  | with_reducible refine' x_tup ?_
  | with_reducible refine' x_lst ?_
  | with_reducible refine' x_gcons ?_
  | with_reducible refine' x_gnil ?_
  | with_reducible refine' x_gsub ?_
  | with_reducible refine' x_next ?_
  | with_reducible refine' x_drop ?_
  | with_reducible refine' x_and ?_
  | with_reducible refine' x_or ?_
  | with_reducible refine' x_not ?_
  | with_reducible refine' x_andV ?_
  | with_reducible refine' x_orV ?_
  | with_reducible refine' x_un ?_
  | with_reducible refine' x_chain ?_
  | with_reducible refine' x_sfld ?_
  | with_reducible refine' x_par ?_
  | with_reducible refine' x_par2 ?_
  | with_reducible refine' x_par3 ?_
  | with_reducible refine' x_par33 ?_
  | with_reducible refine' x_fld ?_
  | with_reducible refine' x_meth ?_
  | with_reducible refine' x_bm ?_
  | with_reducible refine' x_bm0 ?_
  | with_reducible refine' x_forL ?_
  | with_reducible refine' x_forT ?_
  | with_reducible refine' x_forR1 ?_
  | with_reducible refine' x_forR2 ?_
  | with_reducible refine' x_lcL ?_
  | with_reducible refine' x_lcT ?_
  | with_reducible refine' x_lcR1 ?_
  | with_reducible refine' x_lcR2 ?_
  | with_reducible refine' x_dnew ?_
  | with_reducible refine' x_retN ?_
  | with_reducible refine' x_ff ?_
  | with_reducible refine' x_lrg1 ?_
  | with_reducible refine' x_disp ?_
  | with_reducible refine' x_pnil ?_
  | with_reducible refine' x_pcons ?_
  | with_reducible refine' x_dget ?_
  | with_reducible refine' x_dput ?_
  | ((with_reducible refine' x_yes ?e ?_); (case e => decide +kernel))
  | ((with_reducible refine' x_no ?e ?_); (case e => decide +kernel))
  | with_reducible refine' x_lrg2 ?_
  | with_reducible refine' x_tt ?_
  | with_reducible refine' x_break ?_
  | walk_at "i")

def Nsc_law_word : List Str := ["_law_pen", "_law_most", "_law_signs", "_law_k"]
theorem sc_law_word : FnScope Nsc_law_word ["_law_pen", "_law_most"] (defScope (topS 55)) := ⟨rfl, rfl, rfl, by decide +kernel, rfl, by decide +kernel, by decide +kernel⟩
theorem joinL_nil : ∀ l : List (List Nat), TL.joinL [] l = l.flatten
  | [] => rfl
  | [p] => by simp [TL.joinL]
  | p :: q :: r => by
    show p ++ ([] ++ TL.joinL [] (q :: r)) = _
    rw [joinL_nil (q :: r)]
    simp
theorem tl_ones (cs : List Nat) : (Txt.join ("" : Str) (cs.map fun c => (⟨#[c]⟩ : Str))).cps.toList = cs := by
  rw [eq_of_beq (PyProof.Rows.join_plain_closes ("" : Str) (cs.map fun c => (⟨#[c]⟩ : Str)))]
  show TL.tl _ = _
  rw [TL.tl_join]
  show TL.joinL [] _ = _
  rw [joinL_nil, List.map_map]
  induction cs with
  | nil => rfl
  | cons c r ih =>
    show [c] ++ _ = _
    rw [show ((r.map (TL.tl ∘ fun c => (⟨#[c]⟩ : Str))).flatten) = r from ih] <;> rfl
section
variable {P : Program} {w : World} {K : PySem.W.Frag} {mg : Str → Option Value} {base : Heap}
/-- a name's text -/
def spWord : Sp := fun vs H Q _ => ∃ (p l : Addr) (m B : Int), vs = [.ref p, .int m] ∧ Pen H p l B ∧ 0 < m ∧ m ≤ 12 ∧ B ≤ 900000 ∧
  ∀ (x : Str) (H' : Hp), NmOk x → Pen H' p l (B + 14) → Kp (Pn p l) H H' → Q (.str x) H'
theorem ok_word {f : Addr} {fd : FuncData} (F : L2.Fun K "_law_word" "_law_word" (topS 55) f fd) (m : mg "_law_word" = some (.ref f)) (b : Binds K fd ["_law_pen", "_law_most"] []) (G : Gm K mg) (c__law_draw : C8.Cal P w K mg base 1 "_law_draw" spDraw []) : C8.Cal P w K mg base 2 "_law_word" spWord [] := by
  refine calN F m b sc_law_word (fun vs H Q E h => ?_) (fun cdv A outer s H vs Q E hr h => ?_)
  · obtain ⟨p, l, m, B, rfl, _⟩ := h
    rfl
  obtain ⟨p, l, m, B, rfl, hP, m0, m1, hB, k⟩ := h
  refine ⟨_, (pss_cons (ps_set (i := 2) sc_law_word.nd rfl (Or.inr rfl) pe_str) (pss_one (ps_ret (pe_join pe_str (pe_lc (own := [("_law_k", 3)]) rfl sc_law_word.nd (pi_range1 rfl G.range (pa_cons (pe_op op_add pe_int (C8.pe_c c__law_draw hr (by decide) rfl (pa_cons (pv 0) (pa_cons (pv 1) pa_nil)))) pa_nil)) (blkOk_by (own := [("_law_k", 3)]) (N := Nsc_law_word) (sc := defScope (topS 55)) (by decide +kernel)) (fun _ _ _ _ _ => (pg_name (i := 3) sc_law_word.nd rfl (Or.inl rfl))) (fun _ _ _ _ _ => pts_nil) (fun _ _ _ _ _ => (pe_ix ix_str (pv 2) (C8.pe_c c__law_draw hr (by decide) rfl (pa_cons (pv 0) (pa_cons pe_int pa_nil))) (fun _ _ => rfl)))))))), ?_⟩
  rw [show L2.start Nsc_law_word [.ref p, .int m] = [some (.ref p), some (.int m), none, none] from rfl]; try simp only [cxK, cxK2, cxP, cxW, cxPn, cxWn]
  repeat walk_at "s"
  refine ⟨⟨_, rfl⟩, ?_⟩
  repeat walk_at "s"
  refine ⟨p, l, m, B, rfl, hP, m0, by omega, by omega, fun r H1 r0 r1 hP1 kp1 => ?_⟩
  repeat walk_at "s"
  obtain ⟨j, ej⟩ : ∃ j : Nat, r = (j : Int) := ⟨r.toNat, by omega⟩
  have lc : letters.cps.toList.length = 26 := by decide +kernel
  refine x_LcR (m := 1 + j) (by omega) (fun D i H' => ∃ cs : List Nat, H' D = some (.lst ((cs.map fun c => (⟨#[c]⟩ : Str)).map V.str)) ∧ cs.length = i ∧ (∀ c ∈ cs, c ∈ letters.cps.toList) ∧ Pen H' p l (B + 1 + i) ∧ Kp (Pn p l) H H' ∧ H D = none ∧ D ≠ p ∧ D ≠ l) ?_ ?_ ?_
  · intro D H' n
    obtain ⟨a, b⟩ := hP1.fresh n.fresh
    exact ⟨[], n.at_, rfl, (fun c h => nomatch h), (hP1.new n).mono (by omega), kp1.new n, hP1.back kp1 n.fresh, a, b⟩
  · rintro D i H2 hi ⟨cs, hD, hl, hcs, hP2, kp2, nD, np, nl⟩
    repeat walk_at "s"
    refine x_LcY rfl ?_
    repeat walk_at "s"
    refine ⟨p, l, 26, _, rfl, hP2, by omega, by omega, by omega, fun z H3 z0 z1 hP3 kp3 => ?_⟩
    obtain ⟨e, rfl⟩ : ∃ e : Nat, z = (e : Int) := ⟨z.toNat, by omega⟩
    have he : e < letters.cps.toList.length := by omega
    refine x_ixS (by decide +kernel) (c := letters.cps.toList[e]) (atI_nat (List.getElem?_eq_getElem he)) ?_
    refine x_App (kp3 _ _ (fun z => z.elim np nl) hD) (by rw [List.length_map, List.length_map, hl, sizeLine_eq]; omega) fun H4 c4 => ?_
    refine ⟨cs ++ [letters.cps.toList[e]], ?_, ?_, ?_, ?_, (kp2.trans kp3).chg nD c4, nD, np, nl⟩
    · rw [List.map_append, List.map_append]; exact c4.at_
    · rw [List.length_append, hl] <;> rfl
    · intro c hc
      rcases List.mem_append.mp hc with hc | hc
      · exact hcs c hc
      · rw [List.mem_singleton.mp hc]; exact List.getElem_mem he
    · exact (hP3.chg c4 np nl).mono (by omega)
  · rintro D H2 ⟨cs, hD, hl, hcs, hP2, kp2, nD, np, nl⟩
    have hone : ∀ y ∈ (cs.map fun c => (⟨#[c]⟩ : Str)), y.length = 1 := by
      intro y hy
      obtain ⟨c, _, rfl⟩ := List.mem_map.mp hy
      rfl
    have hlen : (Txt.join ("" : Str) (cs.map fun c => (⟨#[c]⟩ : Str))).length = cs.length := by
      have e := congrArg List.length (tl_ones cs)
      rw [Array.length_toList] at e
      exact e
    refine ⟨_, D, _, rfl, rfl, .inl (SqL.of hD), ?_, ?_⟩
    · have e : (List.map (fun x : Str => x.length) (cs.map fun c => (⟨#[c]⟩ : Str))).sum = cs.length := by
        rw [List.map_map]
        clear hD hcs hone hlen hl
        induction cs with
        | nil => rfl
        | cons c r ih => rw [List.map_cons, List.sum_cons, ih, List.length_cons]; show 1 + _ = _; omega
      rw [e, List.length_map, hl]
      show 1 + j + (1 + j) * 0 ≤ 16777216
      omega
    · refine k _ _ ⟨?_, ?_, ?_⟩ (hP2.mono (by omega)) kp2
      · rw [hlen]; omega
      · rw [hlen]; omega
      · rw [tl_ones]; exact hcs
end
end
end K21
end

section
set_option maxRecDepth 100000
set_option maxHeartbeats 4000000
namespace K21
open PySem PySem.Spec PyProof.Rows L2
noncomputable section
local macro_rules | `(tactic| walk_at "hp") => `(tactic| first
  | assumption
  | ((with_reducible refine' At.h ?q); (case q => assumption))
  | ((with_reducible refine' New.at_ ?q); (case q => assumption))
  | ((with_reducible refine' Chg.at_ ?q); (case q => assumption))
  | ((with_reducible refine' New.up ?n ?q); (case n => assumption); (case q => walk_at "hp"))
  | ((with_reducible refine' Same.up ?n ?q); (case n => assumption); (case q => walk_at "hp")))
local macro_rules | `(tactic| walk_at "sz") => `(tactic| first | exact Nat.le_of_ble_eq_true rfl | assumption | omega)
local macro_rules | `(tactic| walk_at "i") => `(tactic| first
  | with_reducible refine' x_I0 ?_
  | ((with_reducible refine' x_I ?c ?_); (case c => first | (show (_ : Int) ≠ 0; omega) | exact .inr ⟨by decide, by decide⟩ | exact .inl ⟨by decide, by decide⟩ | (refine ⟨?_, ?_⟩ <;> first | decide | omega)))
  | with_reducible refine' x_eqI ?_
  | with_reducible refine' x_neI ?_
  | with_reducible refine' x_eqS ?_
  | with_reducible refine' x_neS ?_
  | with_reducible refine' x_isN ?_
  | with_reducible refine' x_notN ?_
  | with_reducible refine' x_U ?_
  | with_reducible refine' x_int ?_
  | with_reducible refine' x_intB ?_
  | with_reducible refine' x_min2 ?_
  | with_reducible refine' x_max2 ?_
  | ((with_reducible refine' x_ixLh ?h ?v ?_); (case h => walk_at "hp"); (case v => first | exact rfl | assumption))
  | ((with_reducible refine' x_ixTh ?h ?v ?_); (case h => walk_at "hp"); (case v => first | exact rfl | assumption))
  | ((with_reducible refine' x_lenL ?h ?_); (case h => walk_at "hp"))
  | ((with_reducible refine' x_lenT ?h ?_); (case h => walk_at "hp"))
  | ((with_reducible refine' x_gtuph ?h ?l ?_); (case h => walk_at "hp"); (case l => exact rfl))
  | ((with_reducible refine' x_BmAh ?h ?_); (case h => walk_at "hp"))
  | ((with_reducible refine' x_BmA0h ?h ?_); (case h => walk_at "hp"))
  | ((with_reducible refine' x_inStr ?h ?_); (case h => walk_at "hp"))
  | ((with_reducible refine' x_ninStr ?h ?_); (case h => walk_at "hp"))
  | ((with_reducible refine' x_inInt ?h ?_); (case h => walk_at "hp"))
  | ((with_reducible refine' x_ninInt ?h ?_); (case h => walk_at "hp"))
  | ((with_reducible refine' x_inL ?h ?f ?g ?_); (case h => walk_at "hp"); (case f => exact rfl); (case g => first | exact rfl | assumption))
  | ((with_reducible refine' x_inT ?h ?f ?g ?_); (case h => walk_at "hp"); (case f => exact rfl); (case g => first | exact rfl | assumption))
  | ((with_reducible refine' x_notInL ?h ?f ?g ?_); (case h => walk_at "hp"); (case f => exact rfl); (case g => first | exact rfl | assumption))
  | ((with_reducible refine' x_setL ?h ?j ?_); (case h => walk_at "hp"); (case j => first | exact rfl | assumption))
  | ((with_reducible refine' x_append ?h ?l ?_); (case h => walk_at "hp"); (case l => walk_at "sz"))
  | ((with_reducible refine' x_neNil ?h ?g ?_); (case h => walk_at "hp"); (case g => walk_at "hp"))
  | ((with_reducible refine' x_eqNil ?h ?g ?_); (case h => walk_at "hp"); (case g => walk_at "hp"))
  | ((with_reducible refine' x_DgA ?h ?v ?_); (case h => walk_at "hp"); (case v => first | exact stK_at _ _ _ | exact stK_kept _ _ _ | exact stK_left _ _ _ | assumption))
  | ((with_reducible refine' x_AlT ?h ?_); (case h => walk_at "sz"))
  | ((with_reducible refine' x_AlL ?h ?_); (case h => walk_at "sz"))
  | ((with_reducible refine' x_Rg1 ?a ?b ?_); (case a => omega); (case b => omega))
  | ((with_reducible refine' x_Rg2 ?a ?b ?c ?d ?_); (case a => omega); (case b => omega); (case c => omega); (case d => omega))
  | with_reducible refine' x_AlO ?_)
local macro_rules | `(tactic| walk_at "s") => `(tactic| first
  | with_reducible refine' x_seq ?_
  | with_reducible refine' x_asg ?_
  | with_reducible refine' x_gname ?_
  | ((with_reducible refine' x_var ?h ?_); (case h => exact rfl))
  | with_reducible refine' x_c ?_
  | with_reducible refine' x_op ?_
  | with_reducible refine' x_cons ?_
  | with_reducible refine' x_nil ?_
  | with_reducible refine' x_cb ?_
  | with_reducible refine' x_ret ?_
  | with_reducible refine' x_ifS ?_
  | with_reducible refine' x_test ?_
  | with_reducible refine' x_B ?_
  | with_reducible refine' x_bl ?_
  | with_reducible refine' x_if ?_
  | with_reducible refine' x_call ?_
  | with_reducible refine' x_tup ?_
  | with_reducible refine' x_lst ?_
  | with_reducible refine' x_gcons ?_
  | with_reducible refine' x_gnil ?_
  | with_reducible refine' x_gsub ?_
  | with_reducible refine' x_next ?_
  | with_reducible refine' x_drop ?_
  | with_reducible refine' x_and ?_
  | with_reducible refine' x_or ?_
  | with_reducible refine' x_not ?_
  | with_reducible refine' x_andV ?_
  | with_reducible refine' x_orV ?_
  | with_reducible refine' x_un ?_
  | with_reducible refine' x_chain ?_
  | with_reducible refine' x_sfld ?_
  | with_reducible refine' x_par ?_
  | with_reducible refine' x_par2 ?_
  | with_reducible refine' x_par3 ?_
  | with_reducible refine' x_par33 ?_
  | with_reducible refine' x_fld ?_
  | with_reducible refine' x_meth ?_
  | with_reducible refine' x_bm ?_
  | with_reducible refine' x_bm0 ?_
  | with_reducible refine' x_forL ?_
  | with_reducible refine' x_forT ?_
  | with_reducible refine' x_forR1 ?_
  | with_reducible refine' x_forR2 ?_
  | with_reducible refine' x_lcL ?_
  | with_reducible refine' x_lcT ?_
  | with_reducible refine' x_lcR1 ?_
  | with_reducible refine' x_lcR2 ?_
  | with_reducible refine' x_dnew ?_
  | with_reducible refine' x_retN ?_
  | with_reducible refine' x_ff ?_
  | with_reducible refine' x_lrg1 ?_
  | with_reducible refine' x_disp ?_
  | with_reducible refine' x_pnil ?_
  | with_reducible refine' x_pcons ?_
  | with_reducible refine' x_dget ?_
  | with_reducible refine' x_dput ?_
  | ((with_reducible refine' x_yes ?e ?_); (case e => decide +kernel))
  | ((with_reducible refine' x_no ?e ?_); (case e => decide +kernel))
  | with_reducible refine' x_lrg2 ?_
  | with_reducible refine' x_tt ?_
  | with_reducible refine' x_break ?_
  | walk_at "i")

def Nsc_law_names : List Str := ["_law_pen", "_law_many", "_law_found", "_law_k", "_law_name", "_law_spare", "_law_word_here", "_law_n"]
theorem sc_law_names : FnScope Nsc_law_names ["_law_pen", "_law_many"] (defScope (topS 56)) := ⟨rfl, rfl, rfl, by decide +kernel, rfl, by decide +kernel, by decide +kernel⟩
/-- a, aa, .. -/
def aN (i : Nat) : Str := Txt.mul ("a" : Str) (1 + (i : Int))
def aL : List Str := (List.range 12).map aN
theorem aL_ok : ∀ x ∈ aL, NmOk x := by
  have h : (aL.all fun x => decide (1 ≤ x.length) && (decide (x.length ≤ 12) && x.cps.toList.all fun c => decide (c ∈ letters.cps.toList))) = true := by decide +kernel
  intro x hx
  have h1 := List.all_eq_true.mp h x hx
  simp only [Bool.and_eq_true, decide_eq_true_eq, List.all_eq_true] at h1
  exact ⟨h1.1, h1.2.1, h1.2.2⟩
theorem aL_nd : aL.Nodup := by decide +kernel
theorem aN_ok : ∀ i : Nat, i < 12 → PySem.MulOk ("a" : Str) (1 + (i : Int)) := by
  intro i hi
  have h : i = 0 ∨ i = 1 ∨ i = 2 ∨ i = 3 ∨ i = 4 ∨ i = 5 ∨ i = 6 ∨ i = 7 ∨ i = 8 ∨ i = 9 ∨ i = 10 ∨ i = 11 := by omega
  rcases h with rfl | rfl | rfl | rfl | rfl | rfl | rfl | rfl | rfl | rfl | rfl | rfl <;> (unfold PySem.MulOk; decide +kernel)
section
variable {P : Program} {w : World} {K : PySem.W.Frag} {mg : Str → Option Value} {base : Heap}
/-- names, no two alike -/
def spNames : Sp := fun vs H Q _ => ∃ (p l : Addr) (m B : Int), vs = [.ref p, .int m] ∧ Pen H p l B ∧ 0 < m ∧ m ≤ 8 ∧ B ≤ 800000 ∧
  ∀ (a : Addr) (nm : List Str) (H' : Hp), NsOk nm → (nm.length : Int) = m → At (Pn p l) H' a (.lst (nm.map V.str)) → Pen H' p l (B + 120) → Kp (Pn p l) H H' → Q (.ref a) H'
theorem ok_names {f : Addr} {fd : FuncData} (F : L2.Fun K "_law_names" "_law_names" (topS 56) f fd) (m : mg "_law_names" = some (.ref f)) (b : Binds K fd ["_law_pen", "_law_many"] []) (G : Gm K mg) (c__law_draw : C8.Cal P w K mg base 1 "_law_draw" spDraw [])
    (c__law_word : C8.Cal P w K mg base 2 "_law_word" spWord []) : C8.Cal P w K mg base 3 "_law_names" spNames [] := by
  refine calN F m b sc_law_names (fun vs H Q E h => ?_) (fun cdv A outer s H vs Q E hr h => ?_)
  · obtain ⟨p, l, m, B, rfl, _⟩ := h
    rfl
  obtain ⟨p, l, m, B, rfl, hP, m0, m1, hB, k⟩ := h
  refine ⟨_, (pss_cons (ps_set (i := 2) sc_law_names.nd rfl (Or.inr rfl) (pe_lst pa_nil)) (pss_cons (ps_for PassesOwn.never rfl (pi_range1 rfl G.range (pa_cons (pv 1) pa_nil)) (pg_name (i := 3) sc_law_names.nd rfl (Or.inl rfl)) (pss_cons (ps_set (i := 4) sc_law_names.nd rfl (Or.inl rfl) (C8.pe_c c__law_word hr (by decide) rfl (pa_cons (pv 0) (pa_cons (pe_ifExp (pt_cmpR op_eq (C8.pe_c c__law_draw hr (by decide) rfl (pa_cons (pv 0) (pa_cons pe_int pa_nil))) pe_int (nomark _)) pe_int pe_int) pa_nil)))) (pss_cons (ps_setLc (i := 5) (own := [("_law_word_here", 6)]) rfl sc_law_names.nd rfl rfl (sw_true rfl rfl rfl (by decide +kernel)) (pi_list (pe_lc (own := [("_law_n", 7)]) rfl sc_law_names.nd (pi_range2 rfl G.range (pa_cons pe_int (pa_cons pe_int pa_nil))) (blkOk_by (own := [("_law_n", 7)]) (N := Nsc_law_names) (sc := defScope (topS 56)) (by decide +kernel)) (fun _ _ _ _ _ => (pg_name (i := 7) sc_law_names.nd rfl (Or.inl rfl))) (fun _ _ _ _ _ => pts_nil) (fun _ _ _ _ _ => (pe_op k_mulS pe_str (pv 7))))) (blkOk_by (own := [("_law_word_here", 6)]) (N := Nsc_law_names) (sc := defScope (topS 56)) (by decide +kernel)) (fun _ _ _ _ _ => (pg_name (i := 6) sc_law_names.nd rfl (Or.inl rfl))) (fun _ _ _ _ _ => pts_one (pt_cmpR (b_notIn (K := K) rfl) (pv 6) (pv 2) (by rfl))) (fun _ _ _ _ _ => (pv 6))) (pss_one (ps_expr (pe_bm PySem.F.plainAttrs_list PySem.F.slot_list_append PySem.F.type_list_append mt_append (pv 2) (pa_cons (pe_ifExp (pt_cmpR op_in_seq (pv 4) (pv 2) (by rfl)) (pe_ix ix_list (pv 5) pe_int (fun _ _ => rfl)) (pv 4)) pa_nil))))))) (pss_one (ps_ret (pv 2))))), ?_⟩
  rw [show L2.start Nsc_law_names [.ref p, .int m] = [some (.ref p), some (.int m), none, none, none, none, none, none] from rfl]; try simp only [cxK, cxK2, cxP, cxW, cxPn, cxWn]
  repeat walk_at "s"
  intro a H1 n1
  have hP1 := hP.new n1
  obtain ⟨ap, al⟩ := hP.newp n1
  repeat walk_at "s"
  obtain ⟨mm, em⟩ : ∃ j : Nat, m = (j : Int) := ⟨m.toNat, by omega⟩
  refine x_ForR (m := mm) (by omega) (fun i σ H' => ∃ (x3 x4 x5 : Option V) (nm : List Str), σ = [some (.ref p), some (.int m), some (.ref a), x3, x4, x5, none, none] ∧ H' a = some (.lst (nm.map V.str)) ∧ nm.length = i ∧ NsOk nm ∧ Pen H' p l (B + 15 * i) ∧ Kp (Pn p l) H H') ?_ ?_ ?_
  · exact ⟨none, none, none, [], rfl, n1.at_, rfl, ⟨List.nodup_nil, fun x h => nomatch h⟩, hP1.mono (by omega), n1.kp⟩
  · rintro i σ H2 hi ⟨x3, x4, x5, nm, rfl, ha, hl, hN, hP2, kp2⟩
    repeat walk_at "s"
    refine ⟨p, l, 4, _, rfl, hP2, by omega, by omega, by omega, fun r H3 r0 r1 hP3 kp3 => ?_⟩
    repeat walk_at "s"
    refine x_iteCC fun z hz => ?_
    obtain ⟨zi, rfl, z0, z1⟩ : ∃ zi, z = V.int zi ∧ 0 < zi ∧ zi ≤ 12 := by
      rcases hz with rfl | rfl
      · exact ⟨12, rfl, by decide, by decide⟩
      · exact ⟨2, rfl, by decide, by decide⟩
    repeat walk_at "s"
    refine ⟨p, l, zi, _, rfl, hP3, z0, z1, by omega, fun x H4 hx hP4 kp4 => ?_⟩
    have ha4 : H4 a = some (.lst (nm.map V.str)) := kp4 _ _ (fun z => z.elim ap al) (kp3 _ _ (fun z => z.elim ap al) ha)
    repeat walk_at "s"
    -- the spare names
    refine x_LcRs (m := 12) (by omega) (fun i => ((List.range i).map aN).map V.str) rfl ?_ ?_
    · intro D j H5 hj nD hD s5
      repeat walk_at "s"
      refine x_LcY rfl ?_
      repeat walk_at "s"
      refine x_mulS (aN_ok j hj) ?_
      refine x_AppS nD s5 hD (by rw [List.length_map, List.length_map, List.length_range, sizeLine_eq]; omega) ?_
      rw [List.range_succ, List.map_append, List.map_append] <;> rfl
    intro D H5 n5
    have ha5 := n5.up ha4
    refine x_LcLs n5.at_ (fun i => ((aL.take i).filter fun y => !decide (y ∈ nm)).map V.str) rfl ?_ ?_
    · intro D' j y H6 hy nD hD s6
      obtain ⟨y, hyy, rfl⟩ := map_some hy
      have hy : aL[j]? = some y := hyy
      repeat walk_at "s"
      refine x_LcT rfl ?_
      have ha6 := s6 _ _ ha5
      repeat walk_at "s"
      refine x_iteN (fun h => ?_) (fun h => ?_)
      · repeat walk_at "s"
        refine x_AppS nD s6 hD (by have := List.length_filter_le (fun y => !decide (y ∈ nm)) (aL.take j); rw [List.length_map, sizeLine_eq]; rw [List.length_take] at this; have := get_lt hy; have : aL.length = 12 := rfl; omega) ?_
        rw [tk hy, List.filter_append, List.filter_cons, if_pos (dyt h), List.map_append] <;> rfl
      · refine ⟨?_, s6⟩
        show H6 D' = _
        rw [hD, tk hy, List.filter_append, List.filter_cons, if_neg (by rw [dyf h]; decide), List.filter_nil, List.append_nil]
    intro D2 H6 n6
    have ha6 := n6.up ha5
    obtain ⟨y, ys, ey⟩ : ∃ y ys, ((aL.take (List.map V.str (List.map aN (List.range 12))).length).filter fun y => !decide (y ∈ nm)) = y :: ys := by
      cases e : ((aL.take (List.map V.str (List.map aN (List.range 12))).length).filter fun y => !decide (y ∈ nm)) with
      | cons y ys => exact ⟨y, ys, rfl⟩
      | nil =>
        have h := nodup_le (m := nm) aL_nd fun x hx => by
          by_cases q : x ∈ nm
          · exact q
          · have : x ∈ ((aL.take (List.map V.str (List.map aN (List.range 12))).length).filter fun y => !decide (y ∈ nm)) := List.mem_filter.mpr ⟨hx, dyt q⟩
            rw [e] at this
            cases this
        have : aL.length = 12 := rfl
        omega
    have hy : y ∈ aL ∧ y ∉ nm := by
      have h : y ∈ y :: ys := List.mem_cons_self ..
      rw [← ey] at h
      obtain ⟨h1, h2⟩ := List.mem_filter.mp h
      exact ⟨List.mem_of_mem_take h1, of_decide_eq_false (by simpa using h2)⟩
    have h6 := n6.at_
    rw [ey] at h6
    have hv0 : atI (List.map V.str (y :: ys)) 0 = some (.str y) := atI_nat (j := 0) rfl
    have fin : ∀ (u : Str) (H7 : Hp) (σ : L2.St), NmOk u → u ∉ nm → Chg H6 H7 a (.lst (nm.map V.str ++ [.str u])) → ∃ x3' x4' x5' nm', [some (V.ref p), some (V.int m), some (V.ref a), some (.int (0 + (i : Int))), some (.str x), some (.ref D2), none, none] = [some (V.ref p), some (V.int m), some (V.ref a), x3', x4', x5', none, none] ∧ H7 a = some (HO.lst (List.map V.str nm')) ∧ nm'.length = i + 1 ∧ NsOk nm' ∧ Pen H7 p l (B + 15 * ((i + 1 : Nat) : Int)) ∧ Kp (Pn p l) H H7 := by
      intro u H7 _ hu hn c7
      refine ⟨_, _, _, nm ++ [u], rfl, by rw [List.map_append]; exact c7.at_, by rw [List.length_append, hl] <;> rfl, ⟨?_, ?_⟩, ?_, ?_⟩
      · exact List.nodup_append.mpr ⟨hN.nd, by simp, fun z hz w hw => by rw [List.mem_singleton.mp hw]; exact fun e => hn (by rw [← e]; exact hz)⟩
      · intro z hz
        rcases List.mem_append.mp hz with hz | hz
        · exact hN.ok z hz
        · rw [List.mem_singleton.mp hz]; exact hu
      · exact ((((hP4.new n5).new n6).chg c7 ap al)).mono (by omega)
      · exact ((((kp2.trans kp3).trans kp4).new n5).new n6).chg n1.fresh c7
    have hz : (nm.map V.str).length < sizeLine := by rw [List.length_map, sizeLine_eq]; omega
    repeat walk_at "s"
    refine x_ite (fun h => ?_) (fun h => ?_)
    · repeat walk_at "s"
      intro H7 c7
      exact fin y H7 [] (aL_ok y hy.1) hy.2 c7
    · repeat walk_at "s"
      intro H7 c7
      exact fin x H7 [] hx h c7
  · rintro σ H2 ⟨x3, x4, x5, nm, rfl, ha, hl, hN, hP2, kp2⟩
    repeat walk_at "s"
    exact k a nm H2 hN (by omega) ⟨ha, fun z => z.elim ap al⟩ (hP2.mono (by omega)) kp2
end
end
end K21
end

section
set_option maxRecDepth 100000
set_option maxHeartbeats 4000000
namespace K21
open PySem PySem.Spec PyProof.Rows L2
noncomputable section
local macro_rules | `(tactic| walk_at "hp") => `(tactic| first
  | assumption
  | ((with_reducible refine' At.h ?q); (case q => assumption))
  | ((with_reducible refine' New.at_ ?q); (case q => assumption))
  | ((with_reducible refine' Chg.at_ ?q); (case q => assumption))
  | ((with_reducible refine' New.up ?n ?q); (case n => assumption); (case q => walk_at "hp"))
  | ((with_reducible refine' Same.up ?n ?q); (case n => assumption); (case q => walk_at "hp")))
local macro_rules | `(tactic| walk_at "sz") => `(tactic| first | exact Nat.le_of_ble_eq_true rfl | assumption | omega)
local macro_rules | `(tactic| walk_at "i") => `(tactic| first
  | with_reducible refine' x_I0 ?_
  | ((with_reducible refine' x_I ?c ?_); (case c => first | (show (_ : Int) ≠ 0; omega) | exact .inr ⟨by decide, by decide⟩ | exact .inl ⟨by decide, by decide⟩ | (refine ⟨?_, ?_⟩ <;> first | decide | omega)))
  | with_reducible refine' x_eqI ?_
  | with_reducible refine' x_neI ?_
  | with_reducible refine' x_eqS ?_
  | with_reducible refine' x_neS ?_
  | with_reducible refine' x_isN ?_
  | with_reducible refine' x_notN ?_
  | with_reducible refine' x_U ?_
  | with_reducible refine' x_int ?_
  | with_reducible refine' x_intB ?_
  | with_reducible refine' x_min2 ?_
  | with_reducible refine' x_max2 ?_
  | ((with_reducible refine' x_ixLh ?h ?v ?_); (case h => walk_at "hp"); (case v => first | exact rfl | assumption))
  | ((with_reducible refine' x_ixTh ?h ?v ?_); (case h => walk_at "hp"); (case v => first | exact rfl | assumption))
  | ((with_reducible refine' x_lenL ?h ?_); (case h => walk_at "hp"))
  | ((with_reducible refine' x_lenT ?h ?_); (case h => walk_at "hp"))
  | ((with_reducible refine' x_gtuph ?h ?l ?_); (case h => walk_at "hp"); (case l => exact rfl))
  | ((with_reducible refine' x_BmAh ?h ?_); (case h => walk_at "hp"))
  | ((with_reducible refine' x_BmA0h ?h ?_); (case h => walk_at "hp"))
  | ((with_reducible refine' x_inStr ?h ?_); (case h => walk_at "hp"))
  | ((with_reducible refine' x_ninStr ?h ?_); (case h => walk_at "hp"))
  | ((with_reducible refine' x_inInt ?h ?_); (case h => walk_at "hp"))
  | ((with_reducible refine' x_ninInt ?h ?_); (case h => walk_at "hp"))
  | ((with_reducible refine' x_inL ?h ?f ?g ?_); (case h => walk_at "hp"); (case f => exact rfl); (case g => first | exact rfl | assumption))
  | ((with_reducible refine' x_inT ?h ?f ?g ?_); (case h => walk_at "hp"); (case f => exact rfl); (case g => first | exact rfl | assumption))
  | ((with_reducible refine' x_notInL ?h ?f ?g ?_); (case h => walk_at "hp"); (case f => exact rfl); (case g => first | exact rfl | assumption))
  | ((with_reducible refine' x_setL ?h ?j ?_); (case h => walk_at "hp"); (case j => first | exact rfl | assumption))
  | ((with_reducible refine' x_append ?h ?l ?_); (case h => walk_at "hp"); (case l => walk_at "sz"))
  | ((with_reducible refine' x_neNil ?h ?g ?_); (case h => walk_at "hp"); (case g => walk_at "hp"))
  | ((with_reducible refine' x_eqNil ?h ?g ?_); (case h => walk_at "hp"); (case g => walk_at "hp"))
  | ((with_reducible refine' x_DgA ?h ?v ?_); (case h => walk_at "hp"); (case v => first | exact stK_at _ _ _ | exact stK_kept _ _ _ | exact stK_left _ _ _ | assumption))
  | ((with_reducible refine' x_AlT ?h ?_); (case h => walk_at "sz"))
  | ((with_reducible refine' x_AlL ?h ?_); (case h => walk_at "sz"))
  | ((with_reducible refine' x_Rg1 ?a ?b ?_); (case a => omega); (case b => omega))
  | ((with_reducible refine' x_Rg2 ?a ?b ?c ?d ?_); (case a => omega); (case b => omega); (case c => omega); (case d => omega))
  | with_reducible refine' x_AlO ?_)
local macro_rules | `(tactic| walk_at "s") => `(tactic| first
  | with_reducible refine' x_seq ?_
  | with_reducible refine' x_asg ?_
  | with_reducible refine' x_gname ?_
  | ((with_reducible refine' x_var ?h ?_); (case h => exact rfl))
  | with_reducible refine' x_c ?_
  | with_reducible refine' x_op ?_
  | with_reducible refine' x_cons ?_
  | with_reducible refine' x_nil ?_
  | with_reducible refine' x_cb ?_
  | with_reducible refine' x_ret ?_
  | with_reducible refine' x_ifS ?_
  | with_reducible refine' x_test ?_
  | with_reducible refine' x_B ?_
  | with_reducible refine' x_bl ?_
  | with_reducible refine' x_if ?_
  | with_reducible refine' x_call ?_
  | with_reducible refine' x_tup ?_
  | with_reducible refine' x_lst ?_
  | with_reducible refine' x_gcons ?_
  | with_reducible refine' x_gnil ?_
  | with_reducible refine' x_gsub ?_
  | with_reducible refine' x_next ?_
  | with_reducible refine' x_drop ?_
  | with_reducible refine' x_and ?_
  | with_reducible refine' x_or ?_
  | with_reducible refine' x_not ?_
  | with_reducible refine' x_andV ?_
  | with_reducible refine' x_orV ?_
  | with_reducible refine' x_un ?_
  | with_reducible refine' x_chain ?_
  | with_reducible refine' x_sfld ?_
  | with_reducible refine' x_par ?_
  | with_reducible refine' x_par2 ?_
  | with_reducible refine' x_par3 ?_
  | with_reducible refine' x_par33 ?_
  | with_reducible refine' x_fld ?_
  | with_reducible refine' x_meth ?_
  | with_reducible refine' x_bm ?_
  | with_reducible refine' x_bm0 ?_
  | with_reducible refine' x_forL ?_
  | with_reducible refine' x_forT ?_
  | with_reducible refine' x_forR1 ?_
  | with_reducible refine' x_forR2 ?_
  | with_reducible refine' x_lcL ?_
  | with_reducible refine' x_lcT ?_
  | with_reducible refine' x_lcR1 ?_
  | with_reducible refine' x_lcR2 ?_
  | with_reducible refine' x_dnew ?_
  | with_reducible refine' x_retN ?_
  | with_reducible refine' x_ff ?_
  | with_reducible refine' x_lrg1 ?_
  | with_reducible refine' x_disp ?_
  | with_reducible refine' x_pnil ?_
  | with_reducible refine' x_pcons ?_
  | with_reducible refine' x_dget ?_
  | with_reducible refine' x_dput ?_
  | ((with_reducible refine' x_yes ?e ?_); (case e => decide +kernel))
  | ((with_reducible refine' x_no ?e ?_); (case e => decide +kernel))
  | with_reducible refine' x_lrg2 ?_
  | with_reducible refine' x_tt ?_
  | with_reducible refine' x_break ?_
  | walk_at "i")

def Nsc_law_words : List Str := ["_law_pen", "_law_many", "_law_looks", "_law_quiet", "_law_words_here", "_law_k"]
theorem sc_law_words : FnScope Nsc_law_words ["_law_pen", "_law_many"] (defScope (topS 57)) := ⟨rfl, rfl, rfl, by decide +kernel, rfl, by decide +kernel, by decide +kernel⟩
section
variable {P : Program} {w : World} {K : PySem.W.Frag} {mg : Str → Option Value} {base : Heap}
/-- the words of a reader's lines -/
def spWords : Sp := fun vs H Q _ => ∃ (p l : Addr) (m B : Int), vs = [.ref p, .int m] ∧ Pen H p l B ∧ 0 < m ∧ m ≤ 8 ∧ B ≤ 700000 ∧
  ∀ (a : Addr) (ws : List Wd) (H' : Hp), WsOk ws → (ws.length : Int) = m → At (Pn p l) H' a (.lst (wsO ws)) → Pen H' p l (B + 30) → Kp (Pn p l) H H' → Q (.ref a) H'
def lookW : List Wd := [.tak, .tak, .tak, .tak, .cas, .cas, .rst, .cap, .jmp]
def quietW : List Wd := [.skp, .skp, .skp, .cut, .cut, .upt, .upt, .set, .rfs]
theorem ok_words {f : Addr} {fd : FuncData} (F : L2.Fun K "_law_words" "_law_words" (topS 57) f fd) (m : mg "_law_words" = some (.ref f)) (b : Binds K fd ["_law_pen", "_law_many"] []) (G : Gm K mg) (c__law_draw : C8.Cal P w K mg base 1 "_law_draw" spDraw [])
    (c__law_pick : C8.Cal P w K mg base 2 "_law_pick" spPick []) : C8.Cal P w K mg base 3 "_law_words" spWords [] := by
  refine calN F m b sc_law_words (fun vs H Q E h => ?_) (fun cdv A outer s H vs Q E hr h => ?_)
  · obtain ⟨p, l, m, B, rfl, _⟩ := h
    rfl
  obtain ⟨p, l, m, B, rfl, hP, m0, m1, hB, k⟩ := h
  refine ⟨_, (pss_cons (ps_set (i := 2) sc_law_words.nd rfl (Or.inl rfl) (pe_lst (pa_cons pe_str (pa_cons pe_str (pa_cons pe_str (pa_cons pe_str (pa_cons pe_str (pa_cons pe_str (pa_cons pe_str (pa_cons pe_str (pa_cons pe_str pa_nil))))))))))) (pss_cons (ps_set (i := 3) sc_law_words.nd rfl (Or.inl rfl) (pe_lst (pa_cons pe_str (pa_cons pe_str (pa_cons pe_str (pa_cons pe_str (pa_cons pe_str (pa_cons pe_str (pa_cons pe_str (pa_cons pe_str (pa_cons pe_str pa_nil))))))))))) (pss_cons (ps_set (i := 4) sc_law_words.nd rfl (Or.inl rfl) (pe_lst (pa_cons (C8.pe_c c__law_pick hr (by decide) rfl (pa_cons (pv 0) (pa_cons (pv 2) pa_nil))) pa_nil))) (pss_cons (ps_for PassesOwn.never rfl (pi_range1 rfl G.range (pa_cons (pe_op op_sub (pv 1) pe_int) pa_nil)) (pg_name (i := 5) sc_law_words.nd rfl (Or.inl rfl)) (pss_one (ps_expr (pe_bm PySem.F.plainAttrs_list PySem.F.slot_list_append PySem.F.type_list_append mt_append (pv 4) (pa_cons (C8.pe_c c__law_pick hr (by decide) rfl (pa_cons (pv 0) (pa_cons (pe_ifExp (pt_cmpR op_gt (C8.pe_c c__law_draw hr (by decide) rfl (pa_cons (pv 0) (pa_cons pe_int pa_nil))) pe_int (nomark _)) (pv 3) (pv 2)) pa_nil))) pa_nil))))) (C8.pss_cut (ps_if (PW.pt (pw_and (pt_cmpR op_gt (pv 1) pe_int (nomark _)) (pw_and1 (pt_cmpR op_gt (C8.pe_c c__law_draw hr (by decide) rfl (pa_cons (pv 0) (pa_cons pe_int pa_nil))) pe_int (nomark _))))) (pss_one (ps_asg pe_str (pg_sub (pv 4) (pe_op op_sub (pv 1) pe_int) set_list))) pss_nil) (C8.pss_cut (ps_if (PW.pt (pw_and (pt_cmpR op_gt (pv 1) pe_int (nomark _)) (pw_and (pt_cmpR op_notIn_seq pe_str (pv 4) (by rfl)) (pw_and1 (pt_cmpR op_gt (C8.pe_c c__law_draw hr (by decide) rfl (pa_cons (pv 0) (pa_cons pe_int pa_nil))) pe_int (nomark _)))))) (pss_one (ps_asg pe_str (pg_sub (pv 4) (pe_op op_sub (pv 1) pe_int) set_list))) pss_nil) (C8.pss_cut (ps_if (PW.pt (pw_and (pt_cmpR op_gt (pv 1) pe_int (nomark _)) (pw_and1 (pt_cmpR op_eq (C8.pe_c c__law_draw hr (by decide) rfl (pa_cons (pv 0) (pa_cons pe_int pa_nil))) pe_int (nomark _))))) (pss_cons (ps_asg (pe_ix ix_list (pv 4) pe_int (fun _ _ => rfl)) (pg_sub (pv 4) pe_int set_list)) (pss_one (ps_asg (C8.pe_c c__law_pick hr (by decide) rfl (pa_cons (pv 0) (pa_cons (pe_lst (pa_cons pe_str (pa_cons pe_str pa_nil))) pa_nil))) (pg_sub (pv 4) pe_int set_list)))) pss_nil) (pss_one (ps_ret (pv 4)))))))))), ?_⟩
  rw [show L2.start Nsc_law_words [.ref p, .int m] = [some (.ref p), some (.int m), none, none, none, none] from rfl]; try simp only [cxK, cxK2, cxP, cxW, cxPn, cxWn]
  repeat walk_at "s"
  intro a1 H1 n1
  repeat walk_at "s"
  intro a2 H2 n2
  repeat walk_at "s"
  have hP2 := (hP.new n1).new n2
  have at1 : At (Pn p l) H1 a1 (.lst (wsO lookW)) := hP.atN n1
  have at1 : At (Pn p l) H2 a1 (.lst (wsO lookW)) := at1.up n2.kp
  have at2 : At (Pn p l) H2 a2 (.lst (wsO quietW)) := (hP.new n1).atN n2
  refine ⟨p, l, B, a1, _, rfl, hP2, at1, by decide, by decide, by omega, fun j v H3 hv hP3 kp3 => ?_⟩
  obtain ⟨y1, hy1, rfl⟩ := map_some hv
  obtain ⟨x1, hx1, rfl⟩ := map_some hy1
  have lk1 : x1.look = true := by
    have h : ∀ y ∈ lookW, y.look = true := by decide
    exact h _ (List.mem_of_getElem? hx1)
  repeat walk_at "s"
  intro a3 H4 n3
  have hP4 := hP3.new n3
  have at1 := (at1.up kp3).up n3.kp
  have at2 := (at2.up kp3).up n3.kp
  obtain ⟨ap, al⟩ := hP3.newp n3
  have nPn := hP3.nPn n3.fresh
  have kp4 : Kp (Pn p l) H H4 := ((((Kp.refl H).new n1).new n2).trans kp3).new n3
  have na3 : H a3 = none := hP3.back ((((Kp.refl H).new n1).new n2).trans kp3) n3.fresh
  have n31 : a3 ≠ a1 := n3.ne ((kp3 _ _ (at1.2) (n2.up n1.at_)))
  have n32 : a3 ≠ a2 := n3.ne ((kp3 _ _ (at2.2) n2.at_))
  obtain ⟨mm, em⟩ : ∃ j : Nat, m = (j : Int) := ⟨m.toNat, by omega⟩
  have sz : ∀ ws : List Wd, ws.length ≤ mm → (wsO ws).length < sizeLine := fun ws h => by rw [wsO_len, sizeLine_eq]; omega
  let I : Int → L2.St → Hp → Prop := fun c σ H' => ∃ (x5 : Option V) (ws : List Wd), σ = [some (.ref p), some (.int m), some (.ref a1), some (.ref a2), some (.ref a3), x5] ∧ H' a3 = some (.lst (wsO ws)) ∧ ws.length = mm ∧ (∃ x, ws[0]? = some x ∧ x.look = true) ∧ Pen H' p l (B + c) ∧ Kp (Pn p l) H H'
  repeat walk_at "s"
  refine x_ForR (m := mm - 1) (by omega) (fun i σ H' => ∃ (x5 : Option V) (ws : List Wd), σ = [some (.ref p), some (.int m), some (.ref a1), some (.ref a2), some (.ref a3), x5] ∧ H' a3 = some (.lst (wsO ws)) ∧ ws.length = i + 1 ∧ (∃ x, ws[0]? = some x ∧ x.look = true) ∧ Pen H' p l (B + 1 + 2 * i) ∧ Kp (Pn p l) H H' ∧ At (Pn p l) H' a1 (.lst (wsO lookW)) ∧ At (Pn p l) H' a2 (.lst (wsO quietW))) ?_ ?_ ?_
  · exact ⟨none, [x1], rfl, n3.at_, rfl, ⟨x1, rfl, lk1⟩, hP4.mono (by omega), kp4, at1, at2⟩
  · rintro i σ H5 hi ⟨x5, ws, rfl, ha, hl, ⟨x0, h0, l0⟩, hP5, kp5, at1, at2⟩
    have hz := sz ws (by omega)
    repeat walk_at "s"
    refine ⟨p, l, 5, _, rfl, hP5, by omega, by omega, by omega, fun r H6 r0 r1 hP6 kp6 => ?_⟩
    repeat walk_at "s"
    refine x_iteVV rfl rfl fun z hz => ?_
    have at1 := at1.up kp6
    have at2 := at2.up kp6
    obtain ⟨a, W, rfl, hW, hW0, hW1⟩ : ∃ a W, z = .ref a ∧ At (Pn p l) H6 a (.lst (wsO W)) ∧ 0 < (wsO W).length ∧ (wsO W).length < 1000 := by
      rcases hz with rfl | rfl
      · exact ⟨_, _, rfl, at2, by decide, by decide⟩
      · exact ⟨_, _, rfl, at1, by decide, by decide⟩
    repeat walk_at "s"
    refine ⟨p, l, _, a, _, rfl, hP6, hW, hW0, hW1, by omega, fun j v H7 hv hP7 kp7 => ?_⟩
    obtain ⟨y, hy, rfl⟩ := map_some hv
    obtain ⟨x, hx, rfl⟩ := map_some hy
    have ha7 : H7 a3 = some (.lst (wsO ws)) := kp7 _ _ nPn (kp6 _ _ nPn ha)
    repeat walk_at "s"
    intro H8 c8
    refine ⟨_, ws ++ [x], rfl, ?_, by rw [List.length_append, hl] <;> rfl, ⟨x0, by rw [List.getElem?_append_left (by omega)]; exact h0, l0⟩, (hP7.chg c8 ap al).mono (by omega), ((kp5.trans kp6).trans kp7).chg na3 c8, ⟨c8.up n31.symm (at1.up kp7).h, (at1.up kp7).2⟩, ⟨c8.up n32.symm (at2.up kp7).h, (at2.up kp7).2⟩⟩
    rw [c8.at_, wsO_snoc]
  rintro σ H5 ⟨x5, ws, rfl, ha, hl, ⟨x0, h0, l0⟩, hP5, kp5, _, _⟩
  -- a cut at the end
  refine x_cut (M := I 20) ?_ ?_
  · repeat walk_at "s"
    refine x_ite (fun h => ?_) (fun h => ?_)
    · repeat walk_at "s"
      refine ⟨p, l, 6, _, rfl, hP5, by omega, by omega, by omega, fun r H6 r0 r1 hP6 kp6 => ?_⟩
      have ha6 : H6 a3 = some (.lst (wsO ws)) := kp6 _ _ nPn ha
      have hix : ixN (wsO ws).length (m - 1) = some (mm - 1) := ixN_of (by omega) (by rw [wsO_len]; omega)
      repeat walk_at "s"
      refine x_ite (fun h => ?_) (fun h => ?_)
      · repeat walk_at "s"
        intro H7 c7
        refine ⟨x5, ws.set (mm - 1) .cut, rfl, by rw [c7.at_, ← wsO_set] <;> rfl, by rw [List.length_set]; omega, ⟨x0, by rw [List.getElem?_set_ne (by omega)]; exact h0, l0⟩, (hP6.chg c7 ap al).mono (by omega), (kp5.trans kp6).chg na3 c7⟩
      · repeat walk_at "s"
        exact ⟨x5, ws, rfl, ha6, by omega, ⟨x0, h0, l0⟩, hP6.mono (by omega), kp5.trans kp6⟩
    · repeat walk_at "s"
      exact ⟨x5, ws, rfl, ha, by omega, ⟨x0, h0, l0⟩, hP5.mono (by omega), kp5⟩
  clear ha h0 l0 hP5 kp5 hl
  rintro σ H5 ⟨x5, ws, rfl, ha, hl, ⟨x0, h0, l0⟩, hP5, kp5⟩
  refine x_cut (M := I 21) ?_ ?_
  · repeat walk_at "s"
    refine x_ite (fun h => ?_) (fun h => ?_)
    · repeat walk_at "s"
      refine x_iteN (fun hn => ?_) (fun hn => ?_)
      · repeat walk_at "s"
        refine ⟨p, l, 3, _, rfl, hP5, by omega, by omega, by omega, fun r H6 r0 r1 hP6 kp6 => ?_⟩
        have ha6 : H6 a3 = some (.lst (wsO ws)) := kp6 _ _ nPn ha
        have hix : ixN (wsO ws).length (m - 2) = some (mm - 2) := ixN_of (by omega) (by rw [wsO_len]; omega)
        repeat walk_at "s"
        refine x_ite (fun h => ?_) (fun h => ?_)
        · repeat walk_at "s"
          intro H7 c7
          refine ⟨x5, ws.set (mm - 2) .skp, rfl, by rw [c7.at_, ← wsO_set] <;> rfl, by rw [List.length_set]; omega, ⟨x0, by rw [List.getElem?_set_ne (by omega)]; exact h0, l0⟩, (hP6.chg c7 ap al).mono (by omega), (kp5.trans kp6).chg na3 c7⟩
        · repeat walk_at "s"
          exact ⟨x5, ws, rfl, ha6, by omega, ⟨x0, h0, l0⟩, hP6.mono (by omega), kp5.trans kp6⟩
      · repeat walk_at "s"
        exact ⟨x5, ws, rfl, ha, by omega, ⟨x0, h0, l0⟩, hP5.mono (by omega), kp5⟩
    · repeat walk_at "s"
      exact ⟨x5, ws, rfl, ha, by omega, ⟨x0, h0, l0⟩, hP5.mono (by omega), kp5⟩
  clear ha h0 l0 hP5 kp5 hl
  rintro σ H5 ⟨x5, ws, rfl, ha, hl, ⟨x0, h0, l0⟩, hP5, kp5⟩
  refine x_cut (M := fun σ H' => ∃ (x5 : Option V) (ws : List Wd), σ = [some (.ref p), some (.int m), some (.ref a1), some (.ref a2), some (.ref a3), x5] ∧ H' a3 = some (.lst (wsO ws)) ∧ ws.length = mm ∧ WsOk ws ∧ Pen H' p l (B + 30) ∧ Kp (Pn p l) H H') ?_ ?_
  · have ok0 : WsOk ws := ⟨by omega, by omega, fun x hx => .inl (by rw [h0] at hx; cases hx; exact l0), ⟨0, x0, h0, l0⟩⟩
    repeat walk_at "s"
    refine x_ite (fun h => ?_) (fun h => ?_)
    · repeat walk_at "s"
      refine ⟨p, l, 6, _, rfl, hP5, by omega, by omega, by omega, fun r H6 r0 r1 hP6 kp6 => ?_⟩
      have ha6 : H6 a3 = some (.lst (wsO ws)) := kp6 _ _ nPn ha
      have hv0 : atI (wsO ws) 0 = some (.str x0.str) := at_ws (i := 0) h0
      have hix : ixN (wsO ws).length 1 = some 1 := ixN_of rfl (by rw [wsO_len]; omega)
      repeat walk_at "s"
      refine x_ite (fun h => ?_) (fun h => ?_)
      · repeat walk_at "s"
        intro H7 c7
        repeat walk_at "s"
        intro a4 H8 n8
        repeat walk_at "s"
        have hP8 := (hP6.chg c7 ap al).new n8
        refine ⟨p, l, _, a4, _, rfl, hP8, (hP6.chg c7 ap al).atN n8, by decide, by decide, by omega, fun j v H9 hv hP9 kp9 => ?_⟩
        obtain ⟨x, rfl, hx⟩ : ∃ x : Wd, v = .str x.str ∧ (x = .set ∨ x = .upt) := by
          match j, hv with
          | 0, hv => exact ⟨.set, (Option.some.inj hv).symm, .inl rfl⟩
          | 1, hv => exact ⟨.upt, (Option.some.inj hv).symm, .inr rfl⟩
          | j + 2, hv => simp at hv
        have ha9 : H9 a3 = some (.lst (wsO (ws.set 1 x0))) := kp9 _ _ nPn (n8.up (by rw [c7.at_, wsO_set] <;> rfl))
        have hix0 : ixN (wsO (ws.set 1 x0)).length 0 = some 0 := ixN_of rfl (by rw [wsO_len, List.length_set]; omega)
        repeat walk_at "s"
        intro H10 c10
        refine ⟨x5, (ws.set 1 x0).set 0 x, rfl, by rw [c10.at_, wsO_set], by rw [List.length_set, List.length_set]; omega, ⟨by rw [List.length_set, List.length_set]; omega, by rw [List.length_set, List.length_set]; omega, ?_, ?_⟩, (hP9.chg c10 ap al).mono (by omega), ?_⟩
        · intro y hy
          rw [List.getElem?_set_self (by rw [List.length_set]; omega)] at hy
          cases hy
          exact .inr hx
        · exact ⟨1, x0, by rw [List.getElem?_set_ne (by omega), List.getElem?_set_self (by omega)], l0⟩
        · exact (((((kp5.trans kp6).chg na3 c7).new n8)).trans kp9).chg na3 c10
      · repeat walk_at "s"
        exact ⟨x5, ws, rfl, ha6, by omega, ok0, hP6.mono (by omega), kp5.trans kp6⟩
    · repeat walk_at "s"
      exact ⟨x5, ws, rfl, ha, by omega, ok0, hP5.mono (by omega), kp5⟩
  clear ha h0 l0 hP5 kp5 hl
  rintro σ H5 ⟨x5, ws, rfl, ha, hl, ok, hP5, kp5⟩
  repeat walk_at "s"
  exact k a3 ws H5 ok (by omega) ⟨ha, nPn⟩ hP5 kp5
end
end
end K21
end

section
set_option maxRecDepth 100000
set_option maxHeartbeats 4000000
namespace K21
open PySem PySem.Spec PyProof.Rows L2
noncomputable section
local macro_rules | `(tactic| walk_at "hp") => `(tactic| first
  | assumption
  | ((with_reducible refine' At.h ?q); (case q => assumption))
  | ((with_reducible refine' New.at_ ?q); (case q => assumption))
  | ((with_reducible refine' Chg.at_ ?q); (case q => assumption))
  | ((with_reducible refine' New.up ?n ?q); (case n => assumption); (case q => walk_at "hp"))
  | ((with_reducible refine' Same.up ?n ?q); (case n => assumption); (case q => walk_at "hp")))
local macro_rules | `(tactic| walk_at "sz") => `(tactic| first | exact Nat.le_of_ble_eq_true rfl | assumption | omega)
local macro_rules | `(tactic| walk_at "i") => `(tactic| first
  | with_reducible refine' x_I0 ?_
  | ((with_reducible refine' x_I ?c ?_); (case c => first | (show (_ : Int) ≠ 0; omega) | exact .inr ⟨by decide, by decide⟩ | exact .inl ⟨by decide, by decide⟩ | (refine ⟨?_, ?_⟩ <;> first | decide | omega)))
  | with_reducible refine' x_eqI ?_
  | with_reducible refine' x_neI ?_
  | with_reducible refine' x_eqS ?_
  | with_reducible refine' x_neS ?_
  | with_reducible refine' x_isN ?_
  | with_reducible refine' x_notN ?_
  | with_reducible refine' x_U ?_
  | with_reducible refine' x_int ?_
  | with_reducible refine' x_intB ?_
  | with_reducible refine' x_min2 ?_
  | with_reducible refine' x_max2 ?_
  | ((with_reducible refine' x_ixLh ?h ?v ?_); (case h => walk_at "hp"); (case v => first | exact rfl | assumption))
  | ((with_reducible refine' x_ixTh ?h ?v ?_); (case h => walk_at "hp"); (case v => first | exact rfl | assumption))
  | ((with_reducible refine' x_lenL ?h ?_); (case h => walk_at "hp"))
  | ((with_reducible refine' x_lenT ?h ?_); (case h => walk_at "hp"))
  | ((with_reducible refine' x_gtuph ?h ?l ?_); (case h => walk_at "hp"); (case l => exact rfl))
  | ((with_reducible refine' x_BmAh ?h ?_); (case h => walk_at "hp"))
  | ((with_reducible refine' x_BmA0h ?h ?_); (case h => walk_at "hp"))
  | ((with_reducible refine' x_inStr ?h ?_); (case h => walk_at "hp"))
  | ((with_reducible refine' x_ninStr ?h ?_); (case h => walk_at "hp"))
  | ((with_reducible refine' x_inInt ?h ?_); (case h => walk_at "hp"))
  | ((with_reducible refine' x_ninInt ?h ?_); (case h => walk_at "hp"))
  | ((with_reducible refine' x_inL ?h ?f ?g ?_); (case h => walk_at "hp"); (case f => exact rfl); (case g => first | exact rfl | assumption))
  | ((with_reducible refine' x_inT ?h ?f ?g ?_); (case h => walk_at "hp"); (case f => exact rfl); (case g => first | exact rfl | assumption))
  | ((with_reducible refine' x_notInL ?h ?f ?g ?_); (case h => walk_at "hp"); (case f => exact rfl); (case g => first | exact rfl | assumption))
  | ((with_reducible refine' x_setL ?h ?j ?_); (case h => walk_at "hp"); (case j => first | exact rfl | assumption))
  | ((with_reducible refine' x_append ?h ?l ?_); (case h => walk_at "hp"); (case l => walk_at "sz"))
  | ((with_reducible refine' x_neNil ?h ?g ?_); (case h => walk_at "hp"); (case g => walk_at "hp"))
  | ((with_reducible refine' x_eqNil ?h ?g ?_); (case h => walk_at "hp"); (case g => walk_at "hp"))
  | ((with_reducible refine' x_DgA ?h ?v ?_); (case h => walk_at "hp"); (case v => first | exact stK_at _ _ _ | exact stK_kept _ _ _ | exact stK_left _ _ _ | assumption))
  | ((with_reducible refine' x_AlT ?h ?_); (case h => walk_at "sz"))
  | ((with_reducible refine' x_AlL ?h ?_); (case h => walk_at "sz"))
  | ((with_reducible refine' x_Rg1 ?a ?b ?_); (case a => omega); (case b => omega))
  | ((with_reducible refine' x_Rg2 ?a ?b ?c ?d ?_); (case a => omega); (case b => omega); (case c => omega); (case d => omega))
  | with_reducible refine' x_AlO ?_)
local macro_rules | `(tactic| walk_at "s") => `(tactic| first
  | with_reducible refine' x_seq ?_
  | with_reducible refine' x_asg ?_
  | with_reducible refine' x_gname ?_
  | ((with_reducible refine' x_var ?h ?_); (case h => exact rfl))
  | with_reducible refine' x_c ?_
  | with_reducible refine' x_op ?_
  | with_reducible refine' x_cons ?_
  | with_reducible refine' x_nil ?_
  | with_reducible refine' x_cb ?_
  | with_reducible refine' x_ret ?_
  | with_reducible refine' x_ifS ?_
  | with_reducible refine' x_test ?_
  | with_reducible refine' x_B ?_
  | with_reducible refine' x_bl ?_
  | with_reducible refine' x_if ?_
  | with_reducible refine' x_call ?_
  | with_reducible refine' x_tup ?_
  | with_reducible refine' x_lst ?_
  | with_reducible refine' x_gcons ?_
  | with_reducible refine' x_gnil ?_
  | with_reducible refine' x_gsub ?_
  | with_reducible refine' x_next ?_
  | with_reducible refine' x_drop ?_
  | with_reducible refine' x_and ?_
  | with_reducible refine' x_or ?_
  | with_reducible refine' x_not ?_
  | with_reducible refine' x_andV ?_
  | with_reducible refine' x_orV ?_
  | with_reducible refine' x_un ?_
  | with_reducible refine' x_chain ?_
  | with_reducible refine' x_sfld ?_
  | with_reducible refine' x_par ?_
  | with_reducible refine' x_par2 ?_
  | with_reducible refine' x_par3 ?_
  | with_reducible refine' x_par33 ?_
  | with_reducible refine' x_fld ?_
  | with_reducible refine' x_meth ?_
  | with_reducible refine' x_bm ?_
  | with_reducible refine' x_bm0 ?_
  | with_reducible refine' x_forL ?_
  | with_reducible refine' x_forT ?_
  | with_reducible refine' x_forR1 ?_
  | with_reducible refine' x_forR2 ?_
  | with_reducible refine' x_lcL ?_
  | with_reducible refine' x_lcT ?_
  | with_reducible refine' x_lcR1 ?_
  | with_reducible refine' x_lcR2 ?_
  | with_reducible refine' x_dnew ?_
  | with_reducible refine' x_retN ?_
  | with_reducible refine' x_ff ?_
  | with_reducible refine' x_lrg1 ?_
  | with_reducible refine' x_disp ?_
  | with_reducible refine' x_pnil ?_
  | with_reducible refine' x_pcons ?_
  | with_reducible refine' x_dget ?_
  | with_reducible refine' x_dput ?_
  | ((with_reducible refine' x_yes ?e ?_); (case e => decide +kernel))
  | ((with_reducible refine' x_no ?e ?_); (case e => decide +kernel))
  | with_reducible refine' x_lrg2 ?_
  | with_reducible refine' x_tt ?_
  | with_reducible refine' x_break ?_
  | walk_at "i")

def Nsc_law_goal : List Str := ["_law_pen", "_law_words_here", "_law_at", "_law_looks", "_law_spots", "_law_ends", "_law_near_here", "_law_spot"]
theorem sc_law_goal : FnScope Nsc_law_goal ["_law_pen", "_law_words_here", "_law_at"] (defScope (topS 58)) := ⟨rfl, rfl, rfl, by decide +kernel, rfl, by decide +kernel, by decide +kernel⟩
def lookG : List Wd := [.tak, .cas, .rst, .cap, .jmp]
theorem lookG_mem : ∀ x : Wd, x ∈ lookG ↔ x.look = true := by intro x; cases x <;> decide
theorem lookG_dec (x : Wd) : decide (x.str ∈ lookG.map Wd.str) = x.look := by
  cases h : x.look with
  | true => exact decide_eq_true (mem_str.mpr ((lookG_mem x).mpr h))
  | false => exact decide_eq_false fun z => by rw [(lookG_mem x).mp (mem_str.mp z)] at h; cases h
/-- each goes -/
def GoAll (ws : List Wd) (i : Nat) (zs : List Int) : Prop := ∀ z ∈ zs, ∃ t : Nat, z = (t : Int) ∧ GoOk ws i t
def wdAt (ws : List Wd) (i : Nat) : Wd := ws.getD i .rfs
theorem wdAt_of {ws : List Wd} {i : Nat} {x : Wd} (h : ws[i]? = some x) : wdAt ws i = x := by unfold wdAt; rw [List.getD_eq_getElem?_getD, h] <;> rfl
section
variable {P : Program} {w : World} {K : PySem.W.Frag} {mg : Str → Option Value} {base : Heap}
/-- a line to go to -/
def spGoal : Sp := fun vs H Q _ => ∃ (p l a : Addr) (ws : List Wd) (i : Nat) (B : Int), vs = [.ref p, .ref a, .int i] ∧ Pen H p l B ∧ At (Pn p l) H a (.lst (wsO ws)) ∧ WsOk ws ∧ i < ws.length ∧ B ≤ 900000 ∧
  ∀ (t : Nat) (H' : Hp), GoOk ws i t → Pen H' p l (B + 3) → Kp (Pn p l) H H' → Q (.int t) H'
theorem ok_goal {f : Addr} {fd : FuncData} (F : L2.Fun K "_law_goal" "_law_goal" (topS 58) f fd) (m : mg "_law_goal" = some (.ref f)) (b : Binds K fd ["_law_pen", "_law_words_here", "_law_at"] []) (G : Gm K mg) (c__law_draw : C8.Cal P w K mg base 1 "_law_draw" spDraw [])
    (c__law_pick : C8.Cal P w K mg base 2 "_law_pick" spPick []) : C8.Cal P w K mg base 3 "_law_goal" spGoal [] := by
  refine calN F m b sc_law_goal (fun vs H Q E h => ?_) (fun cdv A outer s H vs Q E hr h => ?_)
  · obtain ⟨p, l, a, ws, i, B, rfl, _⟩ := h
    rfl
  obtain ⟨p, l, a, ws, i, B, rfl, hP, ha, ok, hi, hB, k⟩ := h
  refine ⟨_, (pss_cons (ps_set (i := 3) sc_law_goal.nd rfl (Or.inr rfl) (pe_lst (pa_cons pe_str (pa_cons pe_str (pa_cons pe_str (pa_cons pe_str (pa_cons pe_str pa_nil))))))) (pss_cons (ps_setLc (i := 4) (own := [("_law_spot", 7)]) rfl sc_law_goal.nd rfl rfl (sw_true rfl rfl rfl (by decide +kernel)) (pi_range1 rfl G.range (pa_cons (pe_callB k_len (by rfl) G.len PySem.boot_len (pa_cons (pv 1) pa_nil)) pa_nil)) (blkOk_by (own := [("_law_spot", 7)]) (N := Nsc_law_goal) (sc := defScope (topS 58)) (by decide +kernel)) (fun _ _ _ _ _ => (pg_name (i := 7) sc_law_goal.nd rfl (Or.inl rfl))) (fun _ _ _ _ _ => pts_one (pt_cmpR (b_in (K := K) rfl) (pe_ix (b_ixL (K := K) rfl) (pv 1) (pv 7) (fun _ _ => rfl)) (pv 3) (by rfl))) (fun _ _ _ _ _ => (pv 7))) (pss_cons (ps_if (pt_cmpR op_notIn_seq (pe_ix ix_list (pv 1) (pv 2) (fun _ _ => rfl)) (pv 3) (by rfl)) (pss_cons (ps_setLc (i := 5) (own := [("_law_spot", 7)]) rfl sc_law_goal.nd rfl rfl (sw_true rfl rfl rfl (by decide +kernel)) (pi_range2 rfl G.range (pa_cons (pe_op op_add (pv 2) pe_int) (pa_cons (pe_callB k_len (by rfl) G.len PySem.boot_len (pa_cons (pv 1) pa_nil)) pa_nil))) (blkOk_by (own := [("_law_spot", 7)]) (N := Nsc_law_goal) (sc := defScope (topS 58)) (by decide +kernel)) (fun _ _ _ _ _ => (pg_name (i := 7) sc_law_goal.nd rfl (Or.inl rfl))) (fun _ _ _ _ _ => pts_one (pt_cmpR op_eq (pe_ix (b_ixL (K := K) rfl) (pv 1) (pv 7) (fun _ _ => rfl)) pe_str (nomark _))) (fun _ _ _ _ _ => (pv 7))) (C8.pss_cut (ps_if (PW.pt (pw_and (pt_cmpR op_eq (pe_ix ix_list (pv 1) (pv 2) (fun _ _ => rfl)) pe_str (nomark _)) (pw_and (pt_cmpR (op_neD hr.units) (pv 5) (pe_lst pa_nil) (nomark _)) (pw_and1 (pt_cmpR op_gt (C8.pe_c c__law_draw hr (by decide) rfl (pa_cons (pv 0) (pa_cons pe_int pa_nil))) pe_int (nomark _)))))) (pss_one (ps_ret (C8.pe_c c__law_pick hr (by decide) rfl (pa_cons (pv 0) (pa_cons (pv 5) pa_nil))))) pss_nil) (C8.pss_cut (ps_if (pt_cmpR op_gt (pv 2) pe_int (nomark _)) (pss_one (ps_set (i := 4) sc_law_goal.nd rfl (Or.inl rfl) (pe_op k_cat (pv 4) (pe_op k_rep (pe_lc (own := [("_law_spot", 7)]) rfl sc_law_goal.nd (pi_range2 rfl G.range (pa_cons (pe_op op_add (pv 2) pe_int) (pa_cons (pe_callB k_len (by rfl) G.len PySem.boot_len (pa_cons (pv 1) pa_nil)) pa_nil))) (blkOk_by (own := [("_law_spot", 7)]) (N := Nsc_law_goal) (sc := defScope (topS 58)) (by decide +kernel)) (fun _ _ _ _ _ => (pg_name (i := 7) sc_law_goal.nd rfl (Or.inl rfl))) (fun _ _ _ _ _ => pts_one (pt_cmpR (b_notIn (K := K) rfl) (pe_ix (b_ixL (K := K) rfl) (pv 1) (pv 7) (fun _ _ => rfl)) (pv 3) (by rfl))) (fun _ _ _ _ _ => (pv 7))) pe_int)))) pss_nil) (pss_one (ps_ret (C8.pe_c c__law_pick hr (by decide) rfl (pa_cons (pv 0) (pa_cons (pv 4) pa_nil)))))))) pss_nil) (pss_cons (ps_setLc (i := 6) (own := [("_law_spot", 7)]) rfl sc_law_goal.nd rfl rfl (sw_true rfl rfl rfl (by decide +kernel)) (pi_range1 rfl G.range (pa_cons (pe_callB k_len (by rfl) G.len PySem.boot_len (pa_cons (pv 1) pa_nil)) pa_nil)) (blkOk_by (own := [("_law_spot", 7)]) (N := Nsc_law_goal) (sc := defScope (topS 58)) (by decide +kernel)) (fun _ _ _ _ _ => (pg_name (i := 7) sc_law_goal.nd rfl (Or.inl rfl))) (fun _ _ _ _ _ => pts_one (pt_cmpR (b_in (K := K) rfl) (pe_ix (b_ixL (K := K) rfl) (pv 1) (pv 7) (fun _ _ => rfl)) (pe_tup (pa_cons pe_str (pa_cons pe_str pa_nil))) (by rfl))) (fun _ _ _ _ _ => (pv 7))) (C8.pss_cut (ps_if (pt_cmpR op_in_seq (pe_ix ix_list (pv 1) (pv 2) (fun _ _ => rfl)) (pe_tup (pa_cons pe_str (pa_cons pe_str pa_nil))) (by rfl)) (pss_one (ps_setLc (i := 6) (own := [("_law_spot", 7)]) rfl sc_law_goal.nd rfl rfl (sw_true rfl rfl rfl (by decide +kernel)) (pi_range1 rfl G.range (pa_cons (pe_callB k_len (by rfl) G.len PySem.boot_len (pa_cons (pv 1) pa_nil)) pa_nil)) (blkOk_by (own := [("_law_spot", 7)]) (N := Nsc_law_goal) (sc := defScope (topS 58)) (by decide +kernel)) (fun _ _ _ _ _ => (pg_name (i := 7) sc_law_goal.nd rfl (Or.inl rfl))) (fun _ _ _ _ _ => pts_one (pt_cmpR (b_in (K := K) rfl) (pe_ix (b_ixL (K := K) rfl) (pv 1) (pv 7) (fun _ _ => rfl)) (pe_tup (pa_cons pe_str (pa_cons pe_str pa_nil))) (by rfl))) (fun _ _ _ _ _ => (pv 7)))) pss_nil) (C8.pss_cut (ps_if (PW.pt (pw_or (pt_cmpR (op_eqD hr.units) (pv 6) (pe_lst pa_nil) (nomark _)) (pw_or1 (pt_cmpR op_eq (C8.pe_c c__law_draw hr (by decide) rfl (pa_cons (pv 0) (pa_cons pe_int pa_nil))) pe_int (nomark _))))) (pss_one (ps_set (i := 6) sc_law_goal.nd rfl (Or.inl rfl) (pe_op k_cat (pe_listRg rfl rfl G.list (prg_1 rfl G.range (pe_callB k_len (by rfl) G.len PySem.boot_len (pa_cons (pv 1) pa_nil)))) (pe_op k_rep (pe_listRg rfl rfl G.list (prg_2 rfl G.range (pe_op op_add (pv 2) pe_int) (pe_callB k_len (by rfl) G.len PySem.boot_len (pa_cons (pv 1) pa_nil)))) pe_int)))) pss_nil) (pss_one (ps_ret (C8.pe_c c__law_pick hr (by decide) rfl (pa_cons (pv 0) (pa_cons (pv 6) pa_nil))))))))))), ?_⟩
  rw [show L2.start Nsc_law_goal [.ref p, .ref a, .int i] = [some (.ref p), some (.ref a), some (.int i), none, none, none, none, none] from rfl]; try simp only [cxK, cxK2, cxP, cxW, cxPn, cxWn]
  obtain ⟨x, hx⟩ := get_some hi
  have hvx : atI (wsO ws) (i : Int) = some (.str x.str) := at_ws hx
  have hle := ok.le
  have hlen : ((wsO ws).length : Int) = (ws.length : Int) := by rw [wsO_len]
  -- the pick at the end
  have pick : ∀ (q : Addr) (zs : List Int) (H1 : Hp) (B1 : Int), At (Pn p l) H1 q (.lst (zs.map V.int)) → GoAll ws i zs → zs ≠ [] → zs.length < 1000 → Pen H1 p l B1 → B1 ≤ B + 2 → Kp (Pn p l) H H1 → spPick [.ref p, .ref q] H1 Q C8.E0 := by
    intro q zs H1 B1 hq hg h0 h1 hP1 hB1 kp1
    refine ⟨p, l, B1, q, _, rfl, hP1, hq, by rw [List.length_map]; exact List.length_pos_iff.mpr h0, by rw [List.length_map]; exact h1, by omega, fun j v H2 hv hP2 kp2 => ?_⟩
    obtain ⟨z, hz, rfl⟩ := map_some hv
    obtain ⟨t, rfl, ht⟩ := hg z (List.mem_of_getElem? hz)
    exact k t H2 ht (hP2.mono (by omega)) (kp1.trans kp2)
  have idx : ∀ (j : Nat) (lo : Int) (n : Nat), lo = (n : Int) → n + j < ws.length → ∃ y, ws[n + j]? = some y ∧ atI (wsO ws) (lo + (j : Int)) = some (.str y.str) := by
    intro j lo n e h
    obtain ⟨y, hy⟩ := get_some h
    exact ⟨y, hy, at_of (j := n + j) (by omega) (map_get (map_get hy))⟩
  repeat walk_at "s"
  intro b1 H1 n1
  repeat walk_at "s"
  have hl1 : H1 b1 = some (.lst (wsO lookG)) := n1.at_
  have ha1 := ha.up n1.kp
  refine x_LcRF (j := 7) (m := ws.length) (by omega) (by omega) (fun j => (wdAt ws j).look) (fun j => V.int (0 + (j : Int))) (fun _ => rfl) ?_ ?_ ?_
  · intro j H2 hj s2 QT kq
    obtain ⟨y, hy, hv⟩ := idx j 0 0 rfl (by omega)
    rw [Nat.zero_add] at hy
    have ha2 := s2 _ _ ha1.h
    have hl2 := s2 _ _ hl1
    repeat walk_at "s"
    rw [lookG_dec, ← wdAt_of hy]
    exact kq _ (Same.refl _)
  · intro j H2 hj s2 _ Q2 kq
    repeat walk_at "s"
    exact kq _ (Same.refl _)
  intro c2 H2 n2
  have hP2 := (hP.new n1).new n2
  have ha2 := ha1.up n2.kp
  have hl2 := n2.up hl1
  have kp2 : Kp (Pn p l) H H2 := n1.kp.new n2
  have at2 : At (Pn p l) H2 c2 (.lst ((gi ws.length (fun j => (wdAt ws j).look) 0).map V.int)) := by
    have h := (hP.new n1).atN n2
    rw [gv_int] at h
    exact h
  have hc2 := at2.h
  repeat walk_at "s"
  rw [lookG_dec]
  refine x_iteB (fun hs => ?_) (fun hs => ?_)
  · -- a silent line
    have hsl : x.look = false := by simpa using hs
    have hws : ∀ y, ws[i]? = some y → y = x := fun y h => by rw [hx] at h; exact (Option.some.inj h).symm
    have goL : ∀ (t : Nat) y, ws[t]? = some y → y.look = true → GoOk ws i t := fun t y h hy => ⟨get_lt h, fun _ _ _ => .inl ⟨y, h, hy⟩⟩
    have goB : ∀ t : Nat, 0 < i → i < t → t < ws.length → GoOk ws i t := fun t h0 h1 h2 => ⟨h2, fun _ _ _ => .inr ⟨h0, h1⟩⟩
    have g0 : GoAll ws i (gi ws.length (fun j => (wdAt ws j).look) 0) := by
      intro z hz
      obtain ⟨t, ht, hf, rfl⟩ := mem_gi.mp hz
      obtain ⟨y, hy⟩ := get_some ht
      rw [wdAt_of hy] at hf
      exact ⟨t, by omega, goL t y hy hf⟩
    have n0 : gi ws.length (fun j => (wdAt ws j).look) 0 ≠ [] := by
      obtain ⟨t, y, hy, hl⟩ := ok.lk
      exact List.ne_nil_of_mem (mem_gi.mpr ⟨t, get_lt hy, by show (wdAt ws t).look = true; rw [wdAt_of hy]; exact hl, rfl⟩)
    have l0 : (gi ws.length (fun j => (wdAt ws j).look) 0).length ≤ 8 := Nat.le_trans (gi_len _ _ _) hle
    repeat walk_at "s"
    refine x_LcRF (j := 7) (m := ws.length - (i + 1)) (by omega) (by omega) (fun j => decide ((wdAt ws (i + 1 + j)).str = ("cut" : Str))) (fun j => V.int ((i : Int) + 1 + (j : Int))) (fun _ => rfl) ?_ ?_ ?_
    · intro j H3 hj s3 QT kq
      obtain ⟨y, hy, hv⟩ := idx j ((i : Int) + 1) (i + 1) (by omega) (by omega)
      have ha3 := s3 _ _ ha2.h
      repeat walk_at "s"
      rw [← wdAt_of hy]
      exact kq _ (Same.refl _)
    · intro j H3 hj s3 _ Q2 kq
      repeat walk_at "s"
      exact kq _ (Same.refl _)
    intro c3 H3 n3
    have hP3 := hP2.new n3
    have ha3 := ha2.up n3.kp
    have hc2 := n3.up hc2
    have at2 := at2.up n3.kp
    have kp3 : Kp (Pn p l) H H3 := kp2.new n3
    have at3 : At (Pn p l) H3 c3 (.lst ((gi (ws.length - (i + 1)) (fun j => decide ((wdAt ws (i + 1 + j)).str = ("cut" : Str))) ((i : Int) + 1)).map V.int)) := by
      have h := hP2.atN n3
      rw [gv_int] at h
      exact h
    have hl3 := n3.up hl2
    repeat walk_at "s"
    refine x_cut (M := fun σ H' => σ = [some (.ref p), some (.ref a), some (.int i), some (.ref b1), some (.ref c2), some (.ref c3), none, none] ∧ At (Pn p l) H' a (.lst (wsO ws)) ∧ At (Pn p l) H' c2 (.lst ((gi ws.length (fun j => (wdAt ws j).look) 0).map V.int)) ∧ At (Pn p l) H' b1 (.lst (wsO lookG)) ∧ Pen H' p l (B + 1) ∧ Kp (Pn p l) H H') ?_ ?_
    · have atb : At (Pn p l) H3 b1 (.lst (wsO lookG)) := ⟨hl3, hP.nPn n1.fresh⟩
      have ha3' := ha3.h
      have hc3 := at3.h
      repeat walk_at "s"
      refine x_ite (fun h => ?_) (fun h => ?_)
      · repeat walk_at "s"
        intro e1 H4 n4
        have hc3 := n4.up hc3
        repeat walk_at "s"
        refine x_iteN (fun hne => ?_) (fun hne => ?_)
        · repeat walk_at "s"
          refine ⟨p, l, 3, _, rfl, hP3.new n4, by omega, by omega, by omega, fun r H5 r0 r1 hP5 kp5 => ?_⟩
          repeat walk_at "s"
          refine x_ite (fun hr => ?_) (fun hr => ?_)
          · repeat walk_at "s"
            refine pick c3 _ H5 _ ((at3.up n4.kp).up kp5) ?_ hne (Nat.lt_of_le_of_lt (gi_len _ _ _) (by omega)) hP5 (by omega) ((kp3.new n4).trans kp5)
            intro z hz
            obtain ⟨t, ht, _, rfl⟩ := mem_gi.mp hz
            refine ⟨i + 1 + t, by omega, goB _ ?_ (by omega) (by omega)⟩
            rcases Nat.eq_zero_or_pos i with h0 | h0
            · subst h0
              have hxs := ok.fst x hx
              rcases hxs with q | q | q
              · rw [hsl] at q; cases q
              · subst q; exact absurd h (by decide +kernel)
              · subst q; exact absurd h (by decide +kernel)
            · exact h0
          · repeat walk_at "s"
            exact ⟨rfl, (ha3.up n4.kp).up kp5, (at2.up n4.kp).up kp5, (atb.up n4.kp).up kp5, hP5, (kp3.new n4).trans kp5⟩
        · repeat walk_at "s"
          exact ⟨rfl, ha3.up n4.kp, at2.up n4.kp, atb.up n4.kp, (hP3.new n4).mono (by omega), kp3.new n4⟩
      · repeat walk_at "s"
        exact ⟨rfl, ha3, at2, atb, hP3.mono (by omega), kp3⟩
    clear hP3 ha3 hc2 at2 kp3 at3 hl3
    rintro σ H4 ⟨rfl, ha4, at2, atb, hP4, kp4⟩
    have hc2 := at2.h
    have ha4' := ha4.h
    have hb4 := atb.h
    refine x_cut (M := fun σ H' => ∃ (q : Addr) (zs : List Int), σ = [some (.ref p), some (.ref a), some (.int i), some (.ref b1), some (.ref q), some (.ref c3), none, none] ∧ At (Pn p l) H' q (.lst (zs.map V.int)) ∧ GoAll ws i zs ∧ zs ≠ [] ∧ zs.length < 1000 ∧ Pen H' p l (B + 1) ∧ Kp (Pn p l) H H') ?_ ?_
    · repeat walk_at "s"
      refine x_ite (fun h => ?_) (fun h => ?_)
      · repeat walk_at "s"
        refine x_LcRF (j := 7) (m := ws.length - (i + 1)) (by omega) (by omega) (fun j => !(wdAt ws (i + 1 + j)).look) (fun j => V.int ((i : Int) + 1 + (j : Int))) (fun _ => rfl) ?_ ?_ ?_
        · intro j H5 hj s5 QT kq
          obtain ⟨y, hy, hv⟩ := idx j ((i : Int) + 1) (i + 1) (by omega) (by omega)
          have ha5 := s5 _ _ ha4'
          have hb5 := s5 _ _ hb4
          repeat walk_at "s"
          rw [lookG_dec, ← wdAt_of hy]
          exact kq _ (Same.refl _)
        · intro j H5 hj s5 _ Q2 kq
          repeat walk_at "s"
          exact kq _ (Same.refl _)
        intro c5 H5 n5
        have h5 := n5.at_
        rw [gv_int] at h5
        have l5 : ((gi (ws.length - (i + 1)) (fun j => !(wdAt ws (i + 1 + j)).look) ((i : Int) + 1)).map V.int).length ≤ 8 := by rw [List.length_map]; exact Nat.le_trans (gi_len _ _ _) (by omega)
        repeat walk_at "s"
        refine x_rep2 h5 (by omega) fun c6 H6 n6 => ?_
        refine x_cat (n6.up (n5.up hc2)) n6.at_ (by rw [List.length_append, List.length_map, sizeLine_eq]; omega) fun c7 H7 n7 => ?_
        repeat walk_at "s"
        refine ⟨c7, gi ws.length (fun j => (wdAt ws j).look) 0 ++ (gi (ws.length - (i + 1)) (fun j => !(wdAt ws (i + 1 + j)).look) ((i : Int) + 1) ++ gi (ws.length - (i + 1)) (fun j => !(wdAt ws (i + 1 + j)).look) ((i : Int) + 1)), rfl, ?_, ?_, ?_, ?_, ((hP4.new n5).new n6).new n7, ((kp4.new n5).new n6).new n7⟩
        · rw [List.map_append, List.map_append]; exact ((hP4.new n5).new n6).atN n7
        · intro z hz
          have tail : ∀ z ∈ gi (ws.length - (i + 1)) (fun j => !(wdAt ws (i + 1 + j)).look) ((i : Int) + 1), ∃ t : Nat, z = (t : Int) ∧ GoOk ws i t := by
            intro z hz
            obtain ⟨t, ht, _, rfl⟩ := mem_gi.mp hz
            exact ⟨i + 1 + t, by omega, goB _ (by omega) (by omega) (by omega)⟩
          rcases List.mem_append.mp hz with hz | hz
          · exact g0 z hz
          · rcases List.mem_append.mp hz with hz | hz
            · exact tail z hz
            · exact tail z hz
        · exact fun e => n0 (List.append_eq_nil_iff.mp e).1
        · rw [List.length_map] at l5
          rw [List.length_append, List.length_append]; omega
      · repeat walk_at "s"
        exact ⟨c2, _, rfl, at2, g0, n0, by omega, hP4, kp4⟩
    rintro σ H5 ⟨q, zs, rfl, hq, hg, h0, h1, hP5, kp5⟩
    repeat walk_at "s"
    exact pick q zs H5 _ hq hg h0 h1 hP5 (by omega) kp5
  · -- a line that reads
    have hsl : x.look = true := by simpa using hs
    have goA : ∀ t : Nat, t < ws.length → GoOk ws i t := fun t h => ⟨h, fun y hy hl => by rw [hx] at hy; cases hy; rw [hsl] at hl; cases hl⟩
    have gA : ∀ (f : Nat → Bool), GoAll ws i (gi ws.length f 0) := by
      intro f z hz
      obtain ⟨t, ht, _, rfl⟩ := mem_gi.mp hz
      exact ⟨t, by omega, goA t ht⟩
    have ha2' := ha2.h
    repeat walk_at "s"
    refine x_LcRF (j := 7) (m := ws.length) (by omega) (by omega) (fun j => inV (.str (wdAt ws j).str) [.str "skip", .str "upto"]) (fun j => V.int (0 + (j : Int))) (fun _ => rfl) ?_ ?_ ?_
    · intro j H3 hj s3 QT kq
      obtain ⟨y, hy, hv⟩ := idx j 0 0 rfl (by omega)
      rw [Nat.zero_add] at hy
      have ha3 := s3 _ _ ha2'
      repeat walk_at "s"
      intro e1 H4 n4
      repeat walk_at "s"
      rw [← wdAt_of hy]
      exact kq _ n4.same
    · intro j H3 hj s3 _ Q2 kq
      repeat walk_at "s"
      exact kq _ (Same.refl _)
    intro c3 H3 n3
    have hP3 := hP2.new n3
    have ha3 := ha2.up n3.kp
    have ha3' := ha3.h
    have at3 : At (Pn p l) H3 c3 (.lst ((gi ws.length (fun j => inV (.str (wdAt ws j).str) [.str "skip", .str "upto"]) 0).map V.int)) := by
      have h := hP2.atN n3
      rw [gv_int] at h
      exact h
    have kp3 : Kp (Pn p l) H H3 := kp2.new n3
    have lg : ∀ f, (gi ws.length f 0).length ≤ 8 := fun f => Nat.le_trans (gi_len _ _ _) hle
    repeat walk_at "s"
    refine x_cut (M := fun σ H' => ∃ (q : Addr) (zs : List Int), σ = [some (.ref p), some (.ref a), some (.int i), some (.ref b1), some (.ref c2), none, some (.ref q), none] ∧ At (Pn p l) H' q (.lst (zs.map V.int)) ∧ GoAll ws i zs ∧ zs.length < 1000 ∧ At (Pn p l) H' a (.lst (wsO ws)) ∧ Pen H' p l B ∧ Kp (Pn p l) H H') ?_ ?_
    · repeat walk_at "s"
      intro e1 H4 n4
      have ha4 := n4.up ha3'
      repeat walk_at "s"
      refine x_iteB (fun h => ?_) (fun h => ?_)
      · repeat walk_at "s"
        refine x_LcRF (j := 7) (m := ws.length) (by omega) (by omega) (fun j => inV (.str (wdAt ws j).str) [.str "cut", .str "take"]) (fun j => V.int (0 + (j : Int))) (fun _ => rfl) ?_ ?_ ?_
        · intro j H5 hj s5 QT kq
          obtain ⟨y, hy, hv⟩ := idx j 0 0 rfl (by omega)
          rw [Nat.zero_add] at hy
          have ha5 := s5 _ _ ha4
          repeat walk_at "s"
          intro e1 H6 n6
          repeat walk_at "s"
          rw [← wdAt_of hy]
          exact kq _ n6.same
        · intro j H5 hj s5 _ Q2 kq
          repeat walk_at "s"
          exact kq _ (Same.refl _)
        intro c5 H5 n5
        repeat walk_at "s"
        have h := (hP3.new n4).atN n5
        rw [gv_int] at h
        exact ⟨c5, _, rfl, h, gA _, Nat.lt_of_le_of_lt (lg _) (by decide), (ha3.up n4.kp).up n5.kp, (hP3.new n4).new n5, (kp3.new n4).new n5⟩
      · repeat walk_at "s"
        exact ⟨c3, _, rfl, at3.up n4.kp, gA _, Nat.lt_of_le_of_lt (lg _) (by decide), ha3.up n4.kp, hP3.new n4, kp3.new n4⟩
    clear at3 hP3 ha3 ha3' kp3
    rintro σ H3 ⟨q, zs, rfl, hq, hg, h1, ha3, hP3, kp3⟩
    have hq' := hq.h
    have ha3' := ha3.h
    refine x_cut (M := fun σ H' => ∃ (q : Addr) (zs : List Int), σ = [some (.ref p), some (.ref a), some (.int i), some (.ref b1), some (.ref c2), none, some (.ref q), none] ∧ At (Pn p l) H' q (.lst (zs.map V.int)) ∧ GoAll ws i zs ∧ zs ≠ [] ∧ zs.length < 1000 ∧ Pen H' p l (B + 1) ∧ Kp (Pn p l) H H') ?_ ?_
    · -- all places
      have all : ∀ (H5 : Hp) (n : L2.St → Hp → Prop), At (Pn p l) H5 a (.lst (wsO ws)) → Pen H5 p l (B + 1) → Kp (Pn p l) H H5 →
          (∀ (q : Addr) (zs : List Int) H6, At (Pn p l) H6 q (.lst (zs.map V.int)) → GoAll ws i zs → zs ≠ [] → zs.length < 1000 → Pen H6 p l (B + 1) → Kp (Pn p l) H H6 → n ([some (.ref p), some (.ref a), some (.int i), some (.ref b1), some (.ref c2), none, some (.ref q), none]) H6) →
          tAsg (tOp rCatK (tLstRg (tRg1 (tCB (rLenK K) (tCons (tVar 1) tNil)))) (tOp rRepK (tLstRg (tRg2 (tOp (rI0 fun i j => V.int (i + j)) (tVar 2) (tC (V.int 1))) (tCB (rLenK K) (tCons (tVar 1) tNil)))) (tC (V.int 2)))) (gName 6) ⟨n, Q, fun _ _ => False, fun _ _ => False⟩
            [some (.ref p), some (.ref a), some (.int i), some (.ref b1), some (.ref c2), none, some (.ref q), none] H5 := by
        intro H5 n ha5 hP5 kp5 fin
        have ha5' := ha5.h
        repeat walk_at "s"
        refine x_LrA1 (by omega) (by omega) fun c6 H6 n6 => ?_
        have ha6 := n6.up ha5'
        repeat walk_at "s"
        refine x_LrA2 (by omega) (by omega) (by omega) (by omega) fun c7 H7 n7 => ?_
        have h6 := n6.at_
        have h7 := n7.at_
        have t6 : (((wsO ws).length : Int) - 0).toNat = ws.length := by omega
        have t7 : (((wsO ws).length : Int) - ((i : Int) + 1)).toNat = ws.length - (i + 1) := by omega
        rw [rgV_int (by omega), t6] at h6
        rw [rgV_int (by omega), t7] at h7
        have l7 : (gi (ws.length - (i + 1)) (fun _ => true) ((i : Int) + 1)).length ≤ 8 := Nat.le_trans (gi_len _ _ _) (by omega)
        have l6 : (gi ws.length (fun _ => true) 0).length ≤ 8 := Nat.le_trans (gi_len _ _ _) (by omega)
        repeat walk_at "s"
        refine x_rep2 h7 (by rw [List.length_map]; omega) fun c8 H8 n8 => ?_
        refine x_cat (n8.up (n7.up h6)) n8.at_ (by rw [List.length_append, List.length_map, List.length_map, sizeLine_eq]; omega) fun c9 H9 n9 => ?_
        repeat walk_at "s"
        have h := (((hP5.new n6).new n7).new n8).atN n9
        rw [← List.map_append, ← List.map_append] at h
        refine fin c9 _ H9 h ?_ ?_ (by rw [List.length_append, List.length_append]; omega) ((((hP5.new n6).new n7).new n8).new n9) ((((kp5.new n6).new n7).new n8).new n9)
        · intro z hz
          have g1 : ∀ z ∈ gi ws.length (fun _ => true) 0, ∃ t : Nat, z = (t : Int) ∧ GoOk ws i t := by
            intro z hz
            obtain ⟨t, ht, _, rfl⟩ := mem_gi.mp hz
            exact ⟨t, by omega, goA t (by omega)⟩
          have g2 : ∀ z ∈ gi (ws.length - (i + 1)) (fun _ => true) ((i : Int) + 1), ∃ t : Nat, z = (t : Int) ∧ GoOk ws i t := by
            intro z hz
            obtain ⟨t, ht, _, rfl⟩ := mem_gi.mp hz
            exact ⟨i + 1 + t, by omega, goA _ (by omega)⟩
          rcases List.mem_append.mp hz with hz | hz
          · exact g1 z hz
          · rcases List.mem_append.mp hz with hz | hz
            · exact g2 z hz
            · exact g2 z hz
        · intro e
          have e1 := (List.append_eq_nil_iff.mp e).1
          have hm : (0 : Int) ∈ gi ws.length (fun _ => true) 0 := mem_gi.mpr ⟨0, by omega, rfl, rfl⟩
          rw [e1] at hm
          cases hm
      repeat walk_at "s"
      intro e1 H4 n4
      have hq4 := n4.up hq'
      repeat walk_at "s"
      refine x_ite (fun h => ?_) (fun h => ?_)
      · refine x_tt ?_
        exact all H4 _ (ha3.up n4.kp) ((hP3.new n4).mono (by omega)) (kp3.new n4) fun q zs H6 a1 a2 a3 a4 a5 a6 => ⟨q, zs, rfl, a1, a2, a3, a4, a5, a6⟩
      · repeat walk_at "s"
        refine ⟨p, l, 3, _, rfl, hP3.new n4, by omega, by omega, by omega, fun r H5 r0 r1 hP5 kp5 => ?_⟩
        repeat walk_at "s"
        refine x_ite (fun hr => ?_) (fun hr => ?_)
        · exact all H5 _ ((ha3.up n4.kp).up kp5) hP5 ((kp3.new n4).trans kp5) fun q zs H6 a1 a2 a3 a4 a5 a6 => ⟨q, zs, rfl, a1, a2, a3, a4, a5, a6⟩
        · repeat walk_at "s"
          exact ⟨q, zs, rfl, (hq.up n4.kp).up kp5, hg, h, h1, hP5, (kp3.new n4).trans kp5⟩
    rintro σ H5 ⟨q, zs, rfl, hq, hg, h0, h1, hP5, kp5⟩
    repeat walk_at "s"
    exact pick q zs H5 _ hq hg h0 h1 hP5 (by omega) kp5
end
end
end K21
end

section
set_option maxRecDepth 100000
set_option maxHeartbeats 4000000
namespace K21
open PySem PySem.Spec PyProof.Rows L2
noncomputable section
local macro_rules | `(tactic| walk_at "hp") => `(tactic| first
  | assumption
  | ((with_reducible refine' At.h ?q); (case q => assumption))
  | ((with_reducible refine' New.at_ ?q); (case q => assumption))
  | ((with_reducible refine' Chg.at_ ?q); (case q => assumption))
  | ((with_reducible refine' New.up ?n ?q); (case n => assumption); (case q => walk_at "hp"))
  | ((with_reducible refine' Same.up ?n ?q); (case n => assumption); (case q => walk_at "hp")))
local macro_rules | `(tactic| walk_at "sz") => `(tactic| first | exact Nat.le_of_ble_eq_true rfl | assumption | omega)
local macro_rules | `(tactic| walk_at "i") => `(tactic| first
  | with_reducible refine' x_I0 ?_
  | ((with_reducible refine' x_I ?c ?_); (case c => first | (show (_ : Int) ≠ 0; omega) | exact .inr ⟨by decide, by decide⟩ | exact .inl ⟨by decide, by decide⟩ | (refine ⟨?_, ?_⟩ <;> first | decide | omega)))
  | with_reducible refine' x_eqI ?_
  | with_reducible refine' x_neI ?_
  | with_reducible refine' x_eqS ?_
  | with_reducible refine' x_neS ?_
  | with_reducible refine' x_isN ?_
  | with_reducible refine' x_notN ?_
  | with_reducible refine' x_U ?_
  | with_reducible refine' x_int ?_
  | with_reducible refine' x_intB ?_
  | with_reducible refine' x_min2 ?_
  | with_reducible refine' x_max2 ?_
  | ((with_reducible refine' x_ixLh ?h ?v ?_); (case h => walk_at "hp"); (case v => first | exact rfl | assumption))
  | ((with_reducible refine' x_ixTh ?h ?v ?_); (case h => walk_at "hp"); (case v => first | exact rfl | assumption))
  | ((with_reducible refine' x_lenL ?h ?_); (case h => walk_at "hp"))
  | ((with_reducible refine' x_lenT ?h ?_); (case h => walk_at "hp"))
  | ((with_reducible refine' x_gtuph ?h ?l ?_); (case h => walk_at "hp"); (case l => exact rfl))
  | ((with_reducible refine' x_BmAh ?h ?_); (case h => walk_at "hp"))
  | ((with_reducible refine' x_BmA0h ?h ?_); (case h => walk_at "hp"))
  | ((with_reducible refine' x_inStr ?h ?_); (case h => walk_at "hp"))
  | ((with_reducible refine' x_ninStr ?h ?_); (case h => walk_at "hp"))
  | ((with_reducible refine' x_inInt ?h ?_); (case h => walk_at "hp"))
  | ((with_reducible refine' x_ninInt ?h ?_); (case h => walk_at "hp"))
  | ((with_reducible refine' x_inL ?h ?f ?g ?_); (case h => walk_at "hp"); (case f => exact rfl); (case g => first | exact rfl | assumption))
  | ((with_reducible refine' x_inT ?h ?f ?g ?_); (case h => walk_at "hp"); (case f => exact rfl); (case g => first | exact rfl | assumption))
  | ((with_reducible refine' x_notInL ?h ?f ?g ?_); (case h => walk_at "hp"); (case f => exact rfl); (case g => first | exact rfl | assumption))
  | ((with_reducible refine' x_setL ?h ?j ?_); (case h => walk_at "hp"); (case j => first | exact rfl | assumption))
  | ((with_reducible refine' x_append ?h ?l ?_); (case h => walk_at "hp"); (case l => walk_at "sz"))
  | ((with_reducible refine' x_neNil ?h ?g ?_); (case h => walk_at "hp"); (case g => walk_at "hp"))
  | ((with_reducible refine' x_eqNil ?h ?g ?_); (case h => walk_at "hp"); (case g => walk_at "hp"))
  | ((with_reducible refine' x_DgA ?h ?v ?_); (case h => walk_at "hp"); (case v => first | exact stK_at _ _ _ | exact stK_kept _ _ _ | exact stK_left _ _ _ | assumption))
  | ((with_reducible refine' x_AlT ?h ?_); (case h => walk_at "sz"))
  | ((with_reducible refine' x_AlL ?h ?_); (case h => walk_at "sz"))
  | ((with_reducible refine' x_Rg1 ?a ?b ?_); (case a => omega); (case b => omega))
  | ((with_reducible refine' x_Rg2 ?a ?b ?c ?d ?_); (case a => omega); (case b => omega); (case c => omega); (case d => omega))
  | with_reducible refine' x_AlO ?_)
local macro_rules | `(tactic| walk_at "s") => `(tactic| first
  | with_reducible refine' x_seq ?_
  | with_reducible refine' x_asg ?_
  | with_reducible refine' x_gname ?_
  | ((with_reducible refine' x_var ?h ?_); (case h => exact rfl))
  | with_reducible refine' x_c ?_
  | with_reducible refine' x_op ?_
  | with_reducible refine' x_cons ?_
  | with_reducible refine' x_nil ?_
  | with_reducible refine' x_cb ?_
  | with_reducible refine' x_ret ?_
  | with_reducible refine' x_ifS ?_
  | with_reducible refine' x_test ?_
  | with_reducible refine' x_B ?_
  | with_reducible refine' x_bl ?_
  | with_reducible refine' x_if ?_
  | with_reducible refine' x_call ?_
  | with_reducible refine' x_tup ?_
  | with_reducible refine' x_lst ?_
  | with_reducible refine' x_gcons ?_
  | with_reducible refine' x_gnil ?_
  | with_reducible refine' x_gsub ?_
  | with_reducible refine' x_next ?_
  | with_reducible refine' x_drop ?_
  | with_reducible refine' x_and ?_
  | with_reducible refine' x_or ?_
  | with_reducible refine' x_not ?_
  | with_reducible refine' x_andV ?_
  | with_reducible refine' x_orV ?_
  | with_reducible refine' x_un ?_
  | with_reducible refine' x_chain ?_
  | with_reducible refine' x_sfld ?_
  | with_reducible refine' x_par ?_
  | with_reducible refine' x_par2 ?_
  | with_reducible refine' x_par3 ?_
  | with_reducible refine' x_par33 ?_
  | with_reducible refine' x_fld ?_
  | with_reducible refine' x_meth ?_
  | with_reducible refine' x_bm ?_
  | with_reducible refine' x_bm0 ?_
  | with_reducible refine' x_forL ?_
  | with_reducible refine' x_forT ?_
  | with_reducible refine' x_forR1 ?_
  | with_reducible refine' x_forR2 ?_
  | with_reducible refine' x_lcL ?_
  | with_reducible refine' x_lcT ?_
  | with_reducible refine' x_lcR1 ?_
  | with_reducible refine' x_lcR2 ?_
  | with_reducible refine' x_dnew ?_
  | with_reducible refine' x_retN ?_
  | with_reducible refine' x_ff ?_
  | with_reducible refine' x_lrg1 ?_
  | with_reducible refine' x_disp ?_
  | with_reducible refine' x_pnil ?_
  | with_reducible refine' x_pcons ?_
  | with_reducible refine' x_dget ?_
  | with_reducible refine' x_dput ?_
  | ((with_reducible refine' x_yes ?e ?_); (case e => decide +kernel))
  | ((with_reducible refine' x_no ?e ?_); (case e => decide +kernel))
  | with_reducible refine' x_lrg2 ?_
  | with_reducible refine' x_tt ?_
  | with_reducible refine' x_break ?_
  | walk_at "i")

def Nsc_law_ways : List Str := ["_law_pen", "_law_names_here", "_law_words_here", "_law_at", "_law_start", "_law_turn", "_law_values", "_law_k", "_law_value"]
theorem sc_law_ways : FnScope Nsc_law_ways ["_law_pen", "_law_names_here", "_law_words_here", "_law_at"] (defScope (topS 59)) := ⟨rfl, rfl, rfl, by decide +kernel, rfl, by decide +kernel, by decide +kernel⟩
def vaL (s t : Int) (n : Nat) : List Int := (List.range n).map fun (k : Nat) => (s + t * (0 + (k : Int))).fmod 6
theorem vaL_nd : ∀ (s t : Int) (n : Nat), 0 ≤ s → s < 6 → (t = 1 ∨ t = 5) → n ≤ 4 → (vaL s t n).Nodup := by
  intro s t n s0 s1 ht hn
  have hs : s = 0 ∨ s = 1 ∨ s = 2 ∨ s = 3 ∨ s = 4 ∨ s = 5 := by omega
  have hm : n = 0 ∨ n = 1 ∨ n = 2 ∨ n = 3 ∨ n = 4 := by omega
  rcases hs with rfl | rfl | rfl | rfl | rfl | rfl <;> rcases ht with rfl | rfl <;> rcases hm with rfl | rfl | rfl | rfl | rfl <;> decide +kernel
theorem vaL_get {s t : Int} {n i : Nat} {z : Int} (h : (vaL s t n)[i]? = some z) : 0 ≤ z ∧ z ≤ 5 := by
  obtain ⟨k, _, rfl⟩ := map_some h
  have a := Int.fmod_nonneg_of_pos (s + t * (0 + (k : Int))) (b := 6) (by decide)
  have b := Int.fmod_lt_of_pos (s + t * (0 + (k : Int))) (b := 6) (by decide)
  omega
section
variable {P : Program} {w : World} {K : PySem.W.Frag} {mg : Str → Option Value} {base : Heap}
/-- the ways of a case line -/
def spWays : Sp := fun vs H Q _ => ∃ (p l an aw : Addr) (nm : List Str) (ws : List Wd) (i : Nat) (B : Int), vs = [.ref p, .ref an, .ref aw, .int i] ∧ Pen H p l B ∧ At (Pn p l) H an (.lst (nm.map V.str)) ∧ At (Pn p l) H aw (.lst (wsO ws)) ∧ WsOk ws ∧ nm.length = ws.length ∧ i < ws.length ∧ B ≤ 800000 ∧
  ∀ (a : Addr) (rs : List Addr) (ys : List (Int × Nat)) (H' : Hp), At (Old H) H' a (seqO false rs) → WaysAt (Old H) H' (nmV nm) rs ys → (∀ q ∈ ys, GoOk ws i q.2) → (ys.map (·.1)).Nodup → (∀ q ∈ ys, 0 ≤ q.1 ∧ q.1 ≤ 5) → ys.length ≤ 6 → Pen H' p l (B + 20) → Kp (Pn p l) H H' → Q (.ref a) H'
theorem ok_ways {f : Addr} {fd : FuncData} (F : L2.Fun K "_law_ways" "_law_ways" (topS 59) f fd) (m : mg "_law_ways" = some (.ref f)) (b : Binds K fd ["_law_pen", "_law_names_here", "_law_words_here", "_law_at"] []) (G : Gm K mg) (c__law_draw : C8.Cal P w K mg base 1 "_law_draw" spDraw [])
    (c__law_pick : C8.Cal P w K mg base 2 "_law_pick" spPick []) (c__law_goal : C8.Cal P w K mg base 3 "_law_goal" spGoal []) : C8.Cal P w K mg base 4 "_law_ways" spWays [] := by
  refine calN F m b sc_law_ways (fun vs H Q E h => ?_) (fun cdv A outer s H vs Q E hr h => ?_)
  · obtain ⟨p, l, an, aw, nm, ws, i, B, rfl, _⟩ := h
    rfl
  obtain ⟨p, l, an, aw, nm, ws, i, B, rfl, hP, hn, hw, ok, hlen, hi, hB, k⟩ := h
  refine ⟨_, (pss_cons (ps_set (i := 4) sc_law_ways.nd rfl (Or.inr rfl) (C8.pe_c c__law_draw hr (by decide) rfl (pa_cons (pv 0) (pa_cons pe_int pa_nil)))) (pss_cons (ps_set (i := 5) sc_law_ways.nd rfl (Or.inr rfl) (C8.pe_c c__law_pick hr (by decide) rfl (pa_cons (pv 0) (pa_cons (pe_lst (pa_cons pe_int (pa_cons pe_int pa_nil))) pa_nil)))) (pss_cons (ps_setLc (i := 6) (own := [("_law_k", 7)]) rfl sc_law_ways.nd rfl rfl (sw_true rfl rfl rfl (by decide +kernel)) (pi_range1 rfl G.range (pa_cons (C8.pe_c c__law_draw hr (by decide) rfl (pa_cons (pv 0) (pa_cons pe_int pa_nil))) pa_nil)) (blkOk_by (own := [("_law_k", 7)]) (N := Nsc_law_ways) (sc := defScope (topS 59)) (by decide +kernel)) (fun _ _ _ _ _ => (pg_name (i := 7) sc_law_ways.nd rfl (Or.inl rfl))) (fun _ _ _ _ _ => pts_nil) (fun _ _ _ _ _ => (pe_op op_modN (pe_callTy k_int (by rfl) G.int (by decide +kernel) (pa_cons (pe_op op_add (pv 4) (pe_op op_mul (pv 5) (pv 7))) pa_nil)) pe_int))) (pss_one (ps_ret (pe_lc (own := [("_law_value", 8)]) rfl sc_law_ways.nd (pi_list (pv 6)) (blkOk_by (own := [("_law_value", 8)]) (N := Nsc_law_ways) (sc := defScope (topS 59)) (by decide +kernel)) (fun _ _ _ _ _ => (pg_name (i := 8) sc_law_ways.nd rfl (Or.inl rfl))) (fun _ _ _ _ _ => pts_nil) (fun _ _ _ _ _ => (pe_tup (pa_cons (pv 8) (pa_cons (pe_ix (b_ixL (K := K) rfl) (pv 1) (C8.pe_c c__law_goal hr (by decide) rfl (pa_cons (pv 0) (pa_cons (pv 2) (pa_cons (pv 3) pa_nil)))) (fun _ _ => rfl)) pa_nil)))))))))), ?_⟩
  rw [show L2.start Nsc_law_ways [.ref p, .ref an, .ref aw, .int i] = [some (.ref p), some (.ref an), some (.ref aw), some (.int i), none, none, none, none, none] from rfl]; try simp only [cxK, cxK2, cxP, cxW, cxPn, cxWn]
  repeat walk_at "s"
  refine ⟨p, l, 6, B, rfl, hP, by omega, by omega, by omega, fun st H1 s0 s1 hP1 kp1 => ?_⟩
  repeat walk_at "s"
  intro e1 H2 n2
  repeat walk_at "s"
  refine ⟨p, l, _, e1, _, rfl, hP1.new n2, hP1.atN n2, by decide, by decide, by omega, fun j v H3 hv hP3 kp3 => ?_⟩
  obtain ⟨tn, rfl, ht⟩ : ∃ t : Int, v = .int t ∧ (t = 1 ∨ t = 5) := by
    match j, hv with
    | 0, hv => exact ⟨1, (Option.some.inj hv).symm, .inl rfl⟩
    | 1, hv => exact ⟨5, (Option.some.inj hv).symm, .inr rfl⟩
    | j + 2, hv => simp at hv
  repeat walk_at "s"
  refine ⟨p, l, 5, _, rfl, hP3, by omega, by omega, by omega, fun r H4 r0 r1 hP4 kp4 => ?_⟩
  obtain ⟨n, rfl⟩ : ∃ n : Nat, r = (n : Int) := ⟨r.toNat, by omega⟩
  have kp40 : Kp (Pn p l) H H4 := ((kp1.new n2).trans kp3).trans kp4
  have hn4 := hn.up kp40
  have hw4 := hw.up kp40
  repeat walk_at "s"
  refine x_LcRs (m := n) (by omega) (fun i => (vaL st tn i).map V.int) rfl ?_ ?_
  · intro D j H5 hj nD hD s5
    repeat walk_at "s"
    refine x_LcY rfl ?_
    repeat walk_at "s"
    refine x_I (.inl ⟨by omega, by omega⟩) ?_
    repeat walk_at "s"
    refine x_AppS nD s5 hD (by rw [List.length_map, sizeLine_eq, vaL, List.length_map, List.length_range]; omega) ?_
    unfold vaL
    rw [List.range_succ, List.map_append, List.map_append] <;> rfl
  intro va H5 n5
  have hP5 := hP4.new n5
  have hva := n5.at_
  have kp5 := kp40.new n5
  repeat walk_at "s"
  have hvl : (vaL st tn n).length = n := by rw [vaL, List.length_map, List.length_range]
  refine x_LcL (SqL.of hva) (fun D i' H' => ∃ (rs : List Addr) (ys : List (Int × Nat)), ys.length = i' ∧ ys.map (·.1) = (vaL st tn n).take i' ∧ (∀ q ∈ ys, GoOk ws i q.2) ∧ WaysAt (Old H) H' (nmV nm) rs ys ∧ H' D = some (.lst (rs.map V.ref)) ∧ Pen H' p l (B + 3 + 3 * i') ∧ Kp (Pn p l) H5 H' ∧ H5 D = none ∧ D ≠ p ∧ D ≠ l) ?_ ?_ ?_ ?_
  · intro D H' nd
    obtain ⟨a, b⟩ := hP5.newp nd
    exact ⟨[], [], rfl, rfl, (fun q h => nomatch h), ⟨rfl, fun i r x h => by simp at h⟩, nd.at_, (hP5.new nd).mono (by omega), nd.kp, nd.fresh, a, b⟩
  · rintro D i' H' hi' ⟨rs, ys, _, _, _, _, _, _, kp, _⟩
    exact SqL.of (kp _ _ (hP4.nPn n5.fresh) hva)
  · rintro D i' x H6 hx ⟨rs, ys, hl, hfst, hgo, hwa, hD, hP6, kp6, nD, np, nl⟩
    obtain ⟨z, hz, rfl⟩ := map_some hx
    have hi'n : i' < n := by have := get_lt hz; omega
    repeat walk_at "s"
    refine x_LcY rfl ?_
    repeat walk_at "s"
    refine ⟨p, l, aw, ws, i, _, rfl, hP6, (hw4.up n5.kp).up kp6, ok, hi, by omega, fun t H7 ht hP7 kp7 => ?_⟩
    obtain ⟨y, hy⟩ := get_some (l := nm) (i := t) (by rw [hlen]; exact ht.1)
    have hvy : atI (nm.map V.str) (t : Int) = some (.str y) := at_map hy
    have hn7 := (((hn4.up n5.kp).up kp6).up kp7).h
    repeat walk_at "s"
    intro e8 H8 n8
    have hD8 : H8 D = some (.lst (rs.map V.ref)) := n8.up (kp7 _ _ (fun q => q.elim np nl) hD)
    refine x_App hD8 (by rw [List.length_map, hwa.1, hl, sizeLine_eq]; omega) fun H9 c9 => ?_
    have wa8 := (hwa.up (hP.kpO kp7)).up n8.kp
    refine ⟨rs ++ [e8], ys ++ [(z, t)], by rw [List.length_append, hl] <;> rfl, ?_, ?_, ?_, ?_, ((hP7.new n8).chg c9 np nl).mono (by omega), ((kp6.trans kp7).new n8).chg nD c9, nD, np, nl⟩
    · rw [List.map_append, hfst, tk hz] <;> rfl
    · intro q hq
      rcases List.mem_append.mp hq with hq | hq
      · exact hgo q hq
      · rw [List.mem_singleton.mp hq]; exact ht
    · exact (wa8.chgT hD8 c9).snoc (((hP7.oldN ((kp5.trans kp6).trans kp7) n8).chgT hD8 c9) |> fun h => by rw [nmV_of hy]; exact h)
    · rw [List.map_append]; exact c9.at_
  · rintro D H6 ⟨rs, ys, hl, hfst, hgo, hwa, hD, hP6, kp6, nD, np, nl⟩
    rw [List.length_map] at hl hfst hP6
    rw [List.take_of_length_le (Nat.le_refl _)] at hfst
    refine k D rs ys H6 ⟨hD, fun q => q (hP5.back kp5 nD)⟩ hwa hgo (by rw [hfst]; exact vaL_nd st tn n s0 s1 ht (by omega)) ?_ (by omega) (hP6.mono (by omega)) (kp5.trans kp6)
    intro q hq
    obtain ⟨j, hj⟩ := List.mem_iff_getElem?.mp hq
    have h := map_get (f := (·.1)) hj
    rw [hfst] at h
    exact vaL_get h
end
end
end K21
end

section
set_option maxRecDepth 100000
set_option maxHeartbeats 4000000
namespace K21
open PySem PySem.Spec PyProof.Rows L2
noncomputable section
local macro_rules | `(tactic| walk_at "hp") => `(tactic| first
  | assumption
  | ((with_reducible refine' At.h ?q); (case q => assumption))
  | ((with_reducible refine' New.at_ ?q); (case q => assumption))
  | ((with_reducible refine' Chg.at_ ?q); (case q => assumption))
  | ((with_reducible refine' New.up ?n ?q); (case n => assumption); (case q => walk_at "hp"))
  | ((with_reducible refine' Same.up ?n ?q); (case n => assumption); (case q => walk_at "hp")))
local macro_rules | `(tactic| walk_at "sz") => `(tactic| first | exact Nat.le_of_ble_eq_true rfl | assumption | omega)
local macro_rules | `(tactic| walk_at "i") => `(tactic| first
  | with_reducible refine' x_I0 ?_
  | ((with_reducible refine' x_I ?c ?_); (case c => first | (show (_ : Int) ≠ 0; omega) | exact .inr ⟨by decide, by decide⟩ | exact .inl ⟨by decide, by decide⟩ | (refine ⟨?_, ?_⟩ <;> first | decide | omega)))
  | with_reducible refine' x_eqI ?_
  | with_reducible refine' x_neI ?_
  | with_reducible refine' x_eqS ?_
  | with_reducible refine' x_neS ?_
  | with_reducible refine' x_isN ?_
  | with_reducible refine' x_notN ?_
  | with_reducible refine' x_U ?_
  | with_reducible refine' x_int ?_
  | with_reducible refine' x_intB ?_
  | with_reducible refine' x_min2 ?_
  | with_reducible refine' x_max2 ?_
  | ((with_reducible refine' x_ixLh ?h ?v ?_); (case h => walk_at "hp"); (case v => first | exact rfl | assumption))
  | ((with_reducible refine' x_ixTh ?h ?v ?_); (case h => walk_at "hp"); (case v => first | exact rfl | assumption))
  | ((with_reducible refine' x_lenL ?h ?_); (case h => walk_at "hp"))
  | ((with_reducible refine' x_lenT ?h ?_); (case h => walk_at "hp"))
  | ((with_reducible refine' x_gtuph ?h ?l ?_); (case h => walk_at "hp"); (case l => exact rfl))
  | ((with_reducible refine' x_BmAh ?h ?_); (case h => walk_at "hp"))
  | ((with_reducible refine' x_BmA0h ?h ?_); (case h => walk_at "hp"))
  | ((with_reducible refine' x_inStr ?h ?_); (case h => walk_at "hp"))
  | ((with_reducible refine' x_ninStr ?h ?_); (case h => walk_at "hp"))
  | ((with_reducible refine' x_inInt ?h ?_); (case h => walk_at "hp"))
  | ((with_reducible refine' x_ninInt ?h ?_); (case h => walk_at "hp"))
  | ((with_reducible refine' x_inL ?h ?f ?g ?_); (case h => walk_at "hp"); (case f => exact rfl); (case g => first | exact rfl | assumption))
  | ((with_reducible refine' x_inT ?h ?f ?g ?_); (case h => walk_at "hp"); (case f => exact rfl); (case g => first | exact rfl | assumption))
  | ((with_reducible refine' x_notInL ?h ?f ?g ?_); (case h => walk_at "hp"); (case f => exact rfl); (case g => first | exact rfl | assumption))
  | ((with_reducible refine' x_setL ?h ?j ?_); (case h => walk_at "hp"); (case j => first | exact rfl | assumption))
  | ((with_reducible refine' x_append ?h ?l ?_); (case h => walk_at "hp"); (case l => walk_at "sz"))
  | ((with_reducible refine' x_neNil ?h ?g ?_); (case h => walk_at "hp"); (case g => walk_at "hp"))
  | ((with_reducible refine' x_eqNil ?h ?g ?_); (case h => walk_at "hp"); (case g => walk_at "hp"))
  | ((with_reducible refine' x_DgA ?h ?v ?_); (case h => walk_at "hp"); (case v => first | exact stK_at _ _ _ | exact stK_kept _ _ _ | exact stK_left _ _ _ | assumption))
  | ((with_reducible refine' x_AlT ?h ?_); (case h => walk_at "sz"))
  | ((with_reducible refine' x_AlL ?h ?_); (case h => walk_at "sz"))
  | ((with_reducible refine' x_Rg1 ?a ?b ?_); (case a => omega); (case b => omega))
  | ((with_reducible refine' x_Rg2 ?a ?b ?c ?d ?_); (case a => omega); (case b => omega); (case c => omega); (case d => omega))
  | with_reducible refine' x_AlO ?_)
local macro_rules | `(tactic| walk_at "s") => `(tactic| first
  | with_reducible refine' x_seq ?_
  | with_reducible refine' x_asg ?_
  | with_reducible refine' x_gname ?_
  | ((with_reducible refine' x_var ?h ?_); (case h => exact rfl))
  | with_reducible refine' x_c ?_
  | with_reducible refine' x_op ?_
  | with_reducible refine' x_cons ?_
  | with_reducible refine' x_nil ?_
  | with_reducible refine' x_cb ?_
  | with_reducible refine' x_ret ?_
  | with_reducible refine' x_ifS ?_
  | with_reducible refine' x_test ?_
  | with_reducible refine' x_B ?_
  | with_reducible refine' x_bl ?_
  | with_reducible refine' x_if ?_
  | with_reducible refine' x_call ?_
  | with_reducible refine' x_tup ?_
  | with_reducible refine' x_lst ?_
  | with_reducible refine' x_gcons ?_
  | with_reducible refine' x_gnil ?_
  | with_reducible refine' x_gsub ?_
  | with_reducible refine' x_next ?_
  | with_reducible refine' x_drop ?_
  | with_reducible refine' x_and ?_
  | with_reducible refine' x_or ?_
  | with_reducible refine' x_not ?_
  | with_reducible refine' x_andV ?_
  | with_reducible refine' x_orV ?_
  | with_reducible refine' x_un ?_
  | with_reducible refine' x_chain ?_
  | with_reducible refine' x_sfld ?_
  | with_reducible refine' x_par ?_
  | with_reducible refine' x_par2 ?_
  | with_reducible refine' x_par3 ?_
  | with_reducible refine' x_par33 ?_
  | with_reducible refine' x_fld ?_
  | with_reducible refine' x_meth ?_
  | with_reducible refine' x_bm ?_
  | with_reducible refine' x_bm0 ?_
  | with_reducible refine' x_forL ?_
  | with_reducible refine' x_forT ?_
  | with_reducible refine' x_forR1 ?_
  | with_reducible refine' x_forR2 ?_
  | with_reducible refine' x_lcL ?_
  | with_reducible refine' x_lcT ?_
  | with_reducible refine' x_lcR1 ?_
  | with_reducible refine' x_lcR2 ?_
  | with_reducible refine' x_dnew ?_
  | with_reducible refine' x_retN ?_
  | with_reducible refine' x_ff ?_
  | with_reducible refine' x_lrg1 ?_
  | with_reducible refine' x_disp ?_
  | with_reducible refine' x_pnil ?_
  | with_reducible refine' x_pcons ?_
  | with_reducible refine' x_dget ?_
  | with_reducible refine' x_dput ?_
  | ((with_reducible refine' x_yes ?e ?_); (case e => decide +kernel))
  | ((with_reducible refine' x_no ?e ?_); (case e => decide +kernel))
  | with_reducible refine' x_lrg2 ?_
  | with_reducible refine' x_tt ?_
  | with_reducible refine' x_break ?_
  | walk_at "i")

def Nsc_law_line : List Str := ["_law_pen", "_law_names_here", "_law_words_here", "_law_at", "_law_word_here", "_law_goal_here", "_law_low", "_law_many"]
theorem sc_law_line : FnScope Nsc_law_line ["_law_pen", "_law_names_here", "_law_words_here", "_law_at"] (defScope (topS 60)) := ⟨rfl, rfl, rfl, by decide +kernel, rfl, by decide +kernel, by decide +kernel⟩
def lowK : List (Key × V) := [(Sum.inr "rest", .int 2), (Sum.inr "cap", .int 0), (Sum.inr "jump", .int 1), (Sum.inr "set", .int 0), (Sum.inr "skip", .int (-3))]
def manK : List (Key × V) := [(Sum.inr "rest", .int 3), (Sum.inr "cap", .int 6), (Sum.inr "jump", .int 4), (Sum.inr "set", .int 6), (Sum.inr "skip", .int 8)]
theorem lowK_m : mergeK [] lowK = lowK := merge_ok (by decide +kernel)
theorem manK_m : mergeK [] manK = manK := merge_ok (by decide +kernel)
section
variable {P : Program} {w : World} {K : PySem.W.Frag} {mg : Str → Option Value} {base : Heap}
/-- a line of the told word -/
def spLine : Sp := fun vs H Q _ => ∃ (p l an aw : Addr) (nm : List Str) (ws : List Wd) (i : Nat) (B : Int), vs = [.ref p, .ref an, .ref aw, .int i] ∧ Pen H p l B ∧ At (Pn p l) H an (.lst (nm.map V.str)) ∧ At (Pn p l) H aw (.lst (wsO ws)) ∧ WsOk ws ∧ nm.length = ws.length ∧ i < ws.length ∧ B ≤ 700000 ∧
  ∀ (a : Addr) (ln : Ln) (H' : Hp), ws[i]? = some ln.wd → ln.par → (∀ t ∈ ln.tg, GoOk ws i t) → LnAt (Old H) H' (nmV nm) false a ln → Pen H' p l (B + 40) → Kp (Pn p l) H H' → Q (.ref a) H'
theorem ok_line {f : Addr} {fd : FuncData} (F : L2.Fun K "_law_line" "_law_line" (topS 60) f fd) (m : mg "_law_line" = some (.ref f)) (b : Binds K fd ["_law_pen", "_law_names_here", "_law_words_here", "_law_at"] []) (G : Gm K mg) (c__law_draw : C8.Cal P w K mg base 1 "_law_draw" spDraw [])
    (c__law_goal : C8.Cal P w K mg base 3 "_law_goal" spGoal []) (c__law_ways : C8.Cal P w K mg base 4 "_law_ways" spWays []) : C8.Cal P w K mg base 5 "_law_line" spLine [] := by
  refine calN F m b sc_law_line (fun vs H Q E h => ?_) (fun cdv A outer s H vs Q E hr h => ?_)
  · obtain ⟨p, l, an, aw, nm, ws, i, B, rfl, _⟩ := h
    rfl
  obtain ⟨p, l, an, aw, nm, ws, i, B, rfl, hP, hn, hw, ok, hlen, hi, hB, k⟩ := h
  refine ⟨_, (pss_cons (ps_set (i := 4) sc_law_line.nd rfl (Or.inl rfl) (pe_ix ix_list (pv 2) (pv 3) (fun _ _ => rfl))) (pss_cons (ps_if (pt_cmpR op_in_seq (pv 4) (pe_tup (pa_cons pe_str (pa_cons pe_str pa_nil))) (by rfl)) (pss_one (ps_ret (pe_tup (pa_cons (pv 4) pa_nil)))) pss_nil) (pss_cons (ps_set (i := 5) sc_law_line.nd rfl (Or.inl rfl) (pe_ix ix_list (pv 1) (C8.pe_c c__law_goal hr (by decide) rfl (pa_cons (pv 0) (pa_cons (pv 2) (pa_cons (pv 3) pa_nil)))) (fun _ _ => rfl))) (pss_cons (ps_if (pt_cmpR op_eq (pv 4) pe_str (nomark _)) (pss_one (ps_ret (pe_tup (pa_cons (pv 4) (pa_cons (pv 5) pa_nil))))) pss_nil) (pss_cons (ps_if (pt_cmpR op_eq (pv 4) pe_str (nomark _)) (pss_one (ps_ret (pe_tup (pa_cons (pv 4) (pa_cons (C8.pe_c c__law_ways hr (by decide) rfl (pa_cons (pv 0) (pa_cons (pv 1) (pa_cons (pv 2) (pa_cons (pv 3) pa_nil))))) (pa_cons (pv 5) pa_nil)))))) pss_nil) (pss_cons (ps_if (pt_cmpR op_eq (pv 4) pe_str (nomark _)) (pss_one (ps_ret (pe_tup (pa_cons (pv 4) (pa_cons (C8.pe_c c__law_draw hr (by decide) rfl (pa_cons (pv 0) (pa_cons pe_int pa_nil))) (pa_cons (pv 5) (pa_cons (pe_ix ix_list (pv 1) (C8.pe_c c__law_goal hr (by decide) rfl (pa_cons (pv 0) (pa_cons (pv 2) (pa_cons (pv 3) pa_nil)))) (fun _ _ => rfl)) pa_nil))))))) pss_nil) (pss_cons (ps_set (i := 6) sc_law_line.nd rfl (Or.inl rfl) (pe_disp (pps_cons pe_str pe_int (pps_cons pe_str pe_int (pps_cons pe_str pe_int (pps_cons pe_str pe_int (pps_cons pe_str (pe_un un_neg pe_int) pps_nil))))) (by rfl) (by rfl) (fun z => by cases z) (by decide))) (pss_cons (ps_set (i := 7) sc_law_line.nd rfl (Or.inl rfl) (pe_disp (pps_cons pe_str pe_int (pps_cons pe_str pe_int (pps_cons pe_str pe_int (pps_cons pe_str pe_int (pps_cons pe_str pe_int pps_nil))))) (by rfl) (by rfl) (fun z => by cases z) (by decide))) (pss_one (ps_ret (pe_tup (pa_cons (pv 4) (pa_cons (pe_op op_add (pe_dget (hu_of hr) (pv 6) (pv 4) (fun _ _ => rfl)) (C8.pe_c c__law_draw hr (by decide) rfl (pa_cons (pv 0) (pa_cons (pe_dget (hu_of hr) (pv 7) (pv 4) (fun _ _ => rfl)) pa_nil)))) (pa_cons (pv 5) pa_nil)))))))))))))), ?_⟩
  rw [show L2.start Nsc_law_line [.ref p, .ref an, .ref aw, .int i] = [some (.ref p), some (.ref an), some (.ref aw), some (.int i), none, none, none, none] from rfl]; try simp only [cxK, cxK2, cxP, cxW, cxPn, cxWn]
  obtain ⟨x, hx⟩ := get_some hi
  have hvx : atI (wsO ws) (i : Int) = some (.str x.str) := at_ws hx
  have hw' := hw.h
  have fin : ∀ (ln : Ln) (wa : Addr) (a : Addr) (H1 H2 : Hp) (B1 : Int) (xs : List V), ln.wd = x → ln.par → (∀ t ∈ ln.tg, GoOk ws i t) → (∀ ws o, ln = .cas ws o → ∃ rs, At (Old H) H2 wa (seqO false rs) ∧ WaysAt (Old H) H2 (nmV nm) rs ws) →
      New H1 H2 a (.tup xs) → ln.row (nmV nm) wa = xs → Pen H1 p l B1 → B1 ≤ B + 40 → Kp (Pn p l) H H1 → Q (.ref a) H2 := by
    intro ln wa a H1 H2 B1 xs hwd hpar hgo hc n e hP1 hB1 kp1
    refine k a ln H2 (by rw [hwd]; exact hx) hpar hgo ⟨wa, ?_, hc⟩ ((hP1.new n).mono hB1) (kp1.new n)
    rw [e]
    exact hP1.oldN kp1 n
  have nc : ∀ (ln : Ln) (H2 : Hp) (wa : Addr), x ≠ .cas → ln.wd = x → ∀ ws o, ln = .cas ws o → ∃ rs, At (Old H) H2 wa (seqO false rs) ∧ WaysAt (Old H) H2 (nmV nm) rs ws := by
    intro ln H2 wa h1 h2 ws o e
    rw [e] at h2
    exact absurd h2.symm h1
  -- a target's name
  have nam : ∀ {t : Nat}, GoOk ws i t → ∃ y, nm[t]? = some y ∧ atI (nm.map V.str) (t : Int) = some (.str y) ∧ nmV nm t = .str y := by
    intro t ht
    obtain ⟨y, hy⟩ := get_some (l := nm) (i := t) (by rw [hlen]; exact ht.1)
    exact ⟨y, hy, at_map hy, nmV_of hy⟩
  have one : ∀ {t : Nat}, GoOk ws i t → ∀ u ∈ [t], GoOk ws i u := fun ht u hu => by rw [List.mem_singleton.mp hu]; exact ht
  repeat walk_at "s"
  intro e1 H1 n1
  have hP1 := hP.new n1
  have kp1 : Kp (Pn p l) H H1 := n1.kp
  repeat walk_at "s"
  cases x with
  | cut =>
    repeat walk_at "s"
    intro a H2 n2
    exact fin .cut 0 a H1 H2 B _ rfl trivial (fun t h => nomatch h) (nc _ _ _ (by decide) rfl) n2 rfl hP1 (by omega) kp1
  | rfs =>
    repeat walk_at "s"
    intro a H2 n2
    exact fin .rfs 0 a H1 H2 B _ rfl trivial (fun t h => nomatch h) (nc _ _ _ (by decide) rfl) n2 rfl hP1 (by omega) kp1
  | tak =>
    repeat walk_at "s"
    refine ⟨p, l, aw, ws, i, B, rfl, hP1, hw.up kp1, ok, hi, by omega, fun t H2 ht hP2 kp2 => ?_⟩
    obtain ⟨y, hy, hv, en⟩ := nam ht
    have hn2 := ((hn.up kp1).up kp2).h
    repeat walk_at "s"
    intro a H3 n3
    exact fin (.tak t) 0 a H2 H3 _ _ rfl trivial (one ht) (nc _ _ _ (by decide) rfl) n3 (by rw [Ln.row, en] <;> rfl) hP2 (by omega) (kp1.trans kp2)
  | cas =>
    repeat walk_at "s"
    refine ⟨p, l, aw, ws, i, B, rfl, hP1, hw.up kp1, ok, hi, by omega, fun t H2 ht hP2 kp2 => ?_⟩
    obtain ⟨y, hy, hv, en⟩ := nam ht
    have hn2 := ((hn.up kp1).up kp2).h
    repeat walk_at "s"
    refine ⟨p, l, an, aw, nm, ws, i, _, rfl, hP2, (hn.up kp1).up kp2, (hw.up kp1).up kp2, ok, hlen, hi, by omega, fun wa rs ys H3 hwa hws hgo hnd hb hl hP3 kp3 => ?_⟩
    repeat walk_at "s"
    intro a H4 n4
    refine fin (.cas ys t) wa a H3 H4 _ _ rfl ⟨hnd, hb, hl⟩ ?_ ?_ n4 (by rw [Ln.row, en] <;> rfl) hP3 (by omega) ((kp1.trans kp2).trans kp3)
    · intro u hu
      rcases List.mem_append.mp hu with hu | hu
      · obtain ⟨q, hq, rfl⟩ := List.mem_map.mp hu
        exact hgo q hq
      · rw [List.mem_singleton.mp hu]; exact ht
    · intro ws' o' e
      cases e
      have so : ∀ b, Old H b → Old H2 b ∨ H3 b = none := fun b hb => .inl (hP2.old (kp1.trans kp2) b hb)
      exact ⟨rs, (hwa.sub so).up n4.kp, (hws.sub so).up n4.kp⟩
  | upt =>
    repeat walk_at "s"
    refine ⟨p, l, aw, ws, i, B, rfl, hP1, hw.up kp1, ok, hi, by omega, fun t H2 ht hP2 kp2 => ?_⟩
    obtain ⟨y, hy, hv, en⟩ := nam ht
    have hn2 := ((hn.up kp1).up kp2).h
    repeat walk_at "s"
    refine ⟨p, l, 6, _, rfl, hP2, by omega, by omega, by omega, fun r H3 r0 r1 hP3 kp3 => ?_⟩
    repeat walk_at "s"
    refine ⟨p, l, aw, ws, i, _, rfl, hP3, ((hw.up kp1).up kp2).up kp3, ok, hi, by omega, fun t2 H4 ht2 hP4 kp4 => ?_⟩
    obtain ⟨y2, hy2, hv2, en2⟩ := nam ht2
    have hn4 := ((((hn.up kp1).up kp2).up kp3).up kp4).h
    repeat walk_at "s"
    intro a H5 n5
    refine fin (.upt r t t2) 0 a H4 H5 _ _ rfl ⟨by omega, by omega⟩ ?_ (nc _ _ _ (by decide) rfl) n5 (by rw [Ln.row, en, en2] <;> rfl) hP4 (by omega) (((kp1.trans kp2).trans kp3).trans kp4)
    intro u hu
    rcases List.mem_cons.mp hu with rfl | hu
    · exact ht
    · rw [List.mem_singleton.mp hu]; exact ht2
  | rst =>
    repeat walk_at "s"
    refine ⟨p, l, aw, ws, i, B, rfl, hP1, hw.up kp1, ok, hi, by omega, fun t H2 ht hP2 kp2 => ?_⟩
    obtain ⟨y, hy, hv, en⟩ := nam ht
    have hn2 := ((hn.up kp1).up kp2).h
    repeat walk_at "s"
    intro q1 H3 n3
    repeat walk_at "s"
    refine x_DspA lowK lowK n3.at_ rfl (by decide) lowK_m fun H4 c4 => ?_
    repeat walk_at "s"
    intro q2 H5 n5
    repeat walk_at "s"
    refine x_DspA manK manK n5.at_ rfl (by decide) manK_m fun H6 c6 => ?_
    have q12 : q1 ≠ q2 := (n5.ne c4.at_).symm
    have hl6 : H6 q1 = some (.dK lowK) := c6.up q12 (n5.up c4.at_)
    have hv1 : valV lowK (Sum.inr Wd.rst.str) = some (.int (2)) := by decide +kernel
    have hv2 : valV manK (Sum.inr Wd.rst.str) = some (.int 3) := by decide +kernel
    have hP3 := hP2.new n3
    have hP4 : Pen H4 p l (B + 3) := hP3.chg c4 (hP2.newp n3).1 (hP2.newp n3).2
    have hP6 : Pen H6 p l (B + 3) := (hP4.new n5).chg c6 (hP4.newp n5).1 (hP4.newp n5).2
    have kp6 : Kp (Pn p l) H2 H6 := ((n3.kp.chg n3.fresh c4).new n5).chg (by
      cases e : H2 q2 with
      | none => rfl
      | some o => exact absurd (c4.up (fun z => q12 z.symm) (n3.up e)) (by rw [n5.fresh]; exact fun z => nomatch z)) c6
    repeat walk_at "s"
    refine ⟨p, l, 3, _, rfl, hP6, by omega, by omega, by omega, fun r H7 r0 r1 hP7 kp7 => ?_⟩
    repeat walk_at "s"
    intro a H8 n8
    exact fin (.rst (2 + r) t) 0 a H7 H8 _ _ rfl ⟨by omega, by omega⟩ (one ht) (nc _ _ _ (by decide) rfl) n8 (by rw [Ln.row, en] <;> rfl) hP7 (by omega) (((kp1.trans kp2).trans kp6).trans kp7)
  | cap =>
    repeat walk_at "s"
    refine ⟨p, l, aw, ws, i, B, rfl, hP1, hw.up kp1, ok, hi, by omega, fun t H2 ht hP2 kp2 => ?_⟩
    obtain ⟨y, hy, hv, en⟩ := nam ht
    have hn2 := ((hn.up kp1).up kp2).h
    repeat walk_at "s"
    intro q1 H3 n3
    repeat walk_at "s"
    refine x_DspA lowK lowK n3.at_ rfl (by decide) lowK_m fun H4 c4 => ?_
    repeat walk_at "s"
    intro q2 H5 n5
    repeat walk_at "s"
    refine x_DspA manK manK n5.at_ rfl (by decide) manK_m fun H6 c6 => ?_
    have q12 : q1 ≠ q2 := (n5.ne c4.at_).symm
    have hl6 : H6 q1 = some (.dK lowK) := c6.up q12 (n5.up c4.at_)
    have hv1 : valV lowK (Sum.inr Wd.cap.str) = some (.int (0)) := by decide +kernel
    have hv2 : valV manK (Sum.inr Wd.cap.str) = some (.int 6) := by decide +kernel
    have hP3 := hP2.new n3
    have hP4 : Pen H4 p l (B + 3) := hP3.chg c4 (hP2.newp n3).1 (hP2.newp n3).2
    have hP6 : Pen H6 p l (B + 3) := (hP4.new n5).chg c6 (hP4.newp n5).1 (hP4.newp n5).2
    have kp6 : Kp (Pn p l) H2 H6 := ((n3.kp.chg n3.fresh c4).new n5).chg (by
      cases e : H2 q2 with
      | none => rfl
      | some o => exact absurd (c4.up (fun z => q12 z.symm) (n3.up e)) (by rw [n5.fresh]; exact fun z => nomatch z)) c6
    repeat walk_at "s"
    refine ⟨p, l, 6, _, rfl, hP6, by omega, by omega, by omega, fun r H7 r0 r1 hP7 kp7 => ?_⟩
    repeat walk_at "s"
    intro a H8 n8
    exact fin (.cap (0 + r) t) 0 a H7 H8 _ _ rfl ⟨by omega, by omega⟩ (one ht) (nc _ _ _ (by decide) rfl) n8 (by rw [Ln.row, en] <;> rfl) hP7 (by omega) (((kp1.trans kp2).trans kp6).trans kp7)
  | jmp =>
    repeat walk_at "s"
    refine ⟨p, l, aw, ws, i, B, rfl, hP1, hw.up kp1, ok, hi, by omega, fun t H2 ht hP2 kp2 => ?_⟩
    obtain ⟨y, hy, hv, en⟩ := nam ht
    have hn2 := ((hn.up kp1).up kp2).h
    repeat walk_at "s"
    intro q1 H3 n3
    repeat walk_at "s"
    refine x_DspA lowK lowK n3.at_ rfl (by decide) lowK_m fun H4 c4 => ?_
    repeat walk_at "s"
    intro q2 H5 n5
    repeat walk_at "s"
    refine x_DspA manK manK n5.at_ rfl (by decide) manK_m fun H6 c6 => ?_
    have q12 : q1 ≠ q2 := (n5.ne c4.at_).symm
    have hl6 : H6 q1 = some (.dK lowK) := c6.up q12 (n5.up c4.at_)
    have hv1 : valV lowK (Sum.inr Wd.jmp.str) = some (.int (1)) := by decide +kernel
    have hv2 : valV manK (Sum.inr Wd.jmp.str) = some (.int 4) := by decide +kernel
    have hP3 := hP2.new n3
    have hP4 : Pen H4 p l (B + 3) := hP3.chg c4 (hP2.newp n3).1 (hP2.newp n3).2
    have hP6 : Pen H6 p l (B + 3) := (hP4.new n5).chg c6 (hP4.newp n5).1 (hP4.newp n5).2
    have kp6 : Kp (Pn p l) H2 H6 := ((n3.kp.chg n3.fresh c4).new n5).chg (by
      cases e : H2 q2 with
      | none => rfl
      | some o => exact absurd (c4.up (fun z => q12 z.symm) (n3.up e)) (by rw [n5.fresh]; exact fun z => nomatch z)) c6
    repeat walk_at "s"
    refine ⟨p, l, 4, _, rfl, hP6, by omega, by omega, by omega, fun r H7 r0 r1 hP7 kp7 => ?_⟩
    repeat walk_at "s"
    intro a H8 n8
    exact fin (.jmp (1 + r) t) 0 a H7 H8 _ _ rfl ⟨by omega, by omega⟩ (one ht) (nc _ _ _ (by decide) rfl) n8 (by rw [Ln.row, en] <;> rfl) hP7 (by omega) (((kp1.trans kp2).trans kp6).trans kp7)
  | set =>
    repeat walk_at "s"
    refine ⟨p, l, aw, ws, i, B, rfl, hP1, hw.up kp1, ok, hi, by omega, fun t H2 ht hP2 kp2 => ?_⟩
    obtain ⟨y, hy, hv, en⟩ := nam ht
    have hn2 := ((hn.up kp1).up kp2).h
    repeat walk_at "s"
    intro q1 H3 n3
    repeat walk_at "s"
    refine x_DspA lowK lowK n3.at_ rfl (by decide) lowK_m fun H4 c4 => ?_
    repeat walk_at "s"
    intro q2 H5 n5
    repeat walk_at "s"
    refine x_DspA manK manK n5.at_ rfl (by decide) manK_m fun H6 c6 => ?_
    have q12 : q1 ≠ q2 := (n5.ne c4.at_).symm
    have hl6 : H6 q1 = some (.dK lowK) := c6.up q12 (n5.up c4.at_)
    have hv1 : valV lowK (Sum.inr Wd.set.str) = some (.int (0)) := by decide +kernel
    have hv2 : valV manK (Sum.inr Wd.set.str) = some (.int 6) := by decide +kernel
    have hP3 := hP2.new n3
    have hP4 : Pen H4 p l (B + 3) := hP3.chg c4 (hP2.newp n3).1 (hP2.newp n3).2
    have hP6 : Pen H6 p l (B + 3) := (hP4.new n5).chg c6 (hP4.newp n5).1 (hP4.newp n5).2
    have kp6 : Kp (Pn p l) H2 H6 := ((n3.kp.chg n3.fresh c4).new n5).chg (by
      cases e : H2 q2 with
      | none => rfl
      | some o => exact absurd (c4.up (fun z => q12 z.symm) (n3.up e)) (by rw [n5.fresh]; exact fun z => nomatch z)) c6
    repeat walk_at "s"
    refine ⟨p, l, 6, _, rfl, hP6, by omega, by omega, by omega, fun r H7 r0 r1 hP7 kp7 => ?_⟩
    repeat walk_at "s"
    intro a H8 n8
    exact fin (.set (0 + r) t) 0 a H7 H8 _ _ rfl ⟨by omega, by omega⟩ (one ht) (nc _ _ _ (by decide) rfl) n8 (by rw [Ln.row, en] <;> rfl) hP7 (by omega) (((kp1.trans kp2).trans kp6).trans kp7)
  | skp =>
    repeat walk_at "s"
    refine ⟨p, l, aw, ws, i, B, rfl, hP1, hw.up kp1, ok, hi, by omega, fun t H2 ht hP2 kp2 => ?_⟩
    obtain ⟨y, hy, hv, en⟩ := nam ht
    have hn2 := ((hn.up kp1).up kp2).h
    repeat walk_at "s"
    intro q1 H3 n3
    repeat walk_at "s"
    refine x_DspA lowK lowK n3.at_ rfl (by decide) lowK_m fun H4 c4 => ?_
    repeat walk_at "s"
    intro q2 H5 n5
    repeat walk_at "s"
    refine x_DspA manK manK n5.at_ rfl (by decide) manK_m fun H6 c6 => ?_
    have q12 : q1 ≠ q2 := (n5.ne c4.at_).symm
    have hl6 : H6 q1 = some (.dK lowK) := c6.up q12 (n5.up c4.at_)
    have hv1 : valV lowK (Sum.inr Wd.skp.str) = some (.int (-3)) := by decide +kernel
    have hv2 : valV manK (Sum.inr Wd.skp.str) = some (.int 8) := by decide +kernel
    have hP3 := hP2.new n3
    have hP4 : Pen H4 p l (B + 3) := hP3.chg c4 (hP2.newp n3).1 (hP2.newp n3).2
    have hP6 : Pen H6 p l (B + 3) := (hP4.new n5).chg c6 (hP4.newp n5).1 (hP4.newp n5).2
    have kp6 : Kp (Pn p l) H2 H6 := ((n3.kp.chg n3.fresh c4).new n5).chg (by
      cases e : H2 q2 with
      | none => rfl
      | some o => exact absurd (c4.up (fun z => q12 z.symm) (n3.up e)) (by rw [n5.fresh]; exact fun z => nomatch z)) c6
    repeat walk_at "s"
    refine ⟨p, l, 8, _, rfl, hP6, by omega, by omega, by omega, fun r H7 r0 r1 hP7 kp7 => ?_⟩
    repeat walk_at "s"
    intro a H8 n8
    exact fin (.skp (-3 + r) t) 0 a H7 H8 _ _ rfl ⟨by omega, by omega⟩ (one ht) (nc _ _ _ (by decide) rfl) n8 (by rw [Ln.row, en] <;> rfl) hP7 (by omega) (((kp1.trans kp2).trans kp6).trans kp7)
end
end
end K21
end

section
set_option maxRecDepth 100000
set_option maxHeartbeats 4000000
namespace K21
open PySem PySem.Spec PyProof.Rows L2
noncomputable section
local macro_rules | `(tactic| walk_at "hp") => `(tactic| first
  | assumption
  | ((with_reducible refine' At.h ?q); (case q => assumption))
  | ((with_reducible refine' New.at_ ?q); (case q => assumption))
  | ((with_reducible refine' Chg.at_ ?q); (case q => assumption))
  | ((with_reducible refine' New.up ?n ?q); (case n => assumption); (case q => walk_at "hp"))
  | ((with_reducible refine' Same.up ?n ?q); (case n => assumption); (case q => walk_at "hp")))
local macro_rules | `(tactic| walk_at "sz") => `(tactic| first | exact Nat.le_of_ble_eq_true rfl | assumption | omega)
local macro_rules | `(tactic| walk_at "i") => `(tactic| first
  | with_reducible refine' x_I0 ?_
  | ((with_reducible refine' x_I ?c ?_); (case c => first | (show (_ : Int) ≠ 0; omega) | exact .inr ⟨by decide, by decide⟩ | exact .inl ⟨by decide, by decide⟩ | (refine ⟨?_, ?_⟩ <;> first | decide | omega)))
  | with_reducible refine' x_eqI ?_
  | with_reducible refine' x_neI ?_
  | with_reducible refine' x_eqS ?_
  | with_reducible refine' x_neS ?_
  | with_reducible refine' x_isN ?_
  | with_reducible refine' x_notN ?_
  | with_reducible refine' x_U ?_
  | with_reducible refine' x_int ?_
  | with_reducible refine' x_intB ?_
  | with_reducible refine' x_min2 ?_
  | with_reducible refine' x_max2 ?_
  | ((with_reducible refine' x_ixLh ?h ?v ?_); (case h => walk_at "hp"); (case v => first | exact rfl | assumption))
  | ((with_reducible refine' x_ixTh ?h ?v ?_); (case h => walk_at "hp"); (case v => first | exact rfl | assumption))
  | ((with_reducible refine' x_lenL ?h ?_); (case h => walk_at "hp"))
  | ((with_reducible refine' x_lenT ?h ?_); (case h => walk_at "hp"))
  | ((with_reducible refine' x_gtuph ?h ?l ?_); (case h => walk_at "hp"); (case l => exact rfl))
  | ((with_reducible refine' x_BmAh ?h ?_); (case h => walk_at "hp"))
  | ((with_reducible refine' x_BmA0h ?h ?_); (case h => walk_at "hp"))
  | ((with_reducible refine' x_inStr ?h ?_); (case h => walk_at "hp"))
  | ((with_reducible refine' x_ninStr ?h ?_); (case h => walk_at "hp"))
  | ((with_reducible refine' x_inInt ?h ?_); (case h => walk_at "hp"))
  | ((with_reducible refine' x_ninInt ?h ?_); (case h => walk_at "hp"))
  | ((with_reducible refine' x_inL ?h ?f ?g ?_); (case h => walk_at "hp"); (case f => exact rfl); (case g => first | exact rfl | assumption))
  | ((with_reducible refine' x_inT ?h ?f ?g ?_); (case h => walk_at "hp"); (case f => exact rfl); (case g => first | exact rfl | assumption))
  | ((with_reducible refine' x_notInL ?h ?f ?g ?_); (case h => walk_at "hp"); (case f => exact rfl); (case g => first | exact rfl | assumption))
  | ((with_reducible refine' x_setL ?h ?j ?_); (case h => walk_at "hp"); (case j => first | exact rfl | assumption))
  | ((with_reducible refine' x_append ?h ?l ?_); (case h => walk_at "hp"); (case l => walk_at "sz"))
  | ((with_reducible refine' x_neNil ?h ?g ?_); (case h => walk_at "hp"); (case g => walk_at "hp"))
  | ((with_reducible refine' x_eqNil ?h ?g ?_); (case h => walk_at "hp"); (case g => walk_at "hp"))
  | ((with_reducible refine' x_DgA ?h ?v ?_); (case h => walk_at "hp"); (case v => first | exact stK_at _ _ _ | exact stK_kept _ _ _ | exact stK_left _ _ _ | assumption))
  | ((with_reducible refine' x_AlT ?h ?_); (case h => walk_at "sz"))
  | ((with_reducible refine' x_AlL ?h ?_); (case h => walk_at "sz"))
  | ((with_reducible refine' x_Rg1 ?a ?b ?_); (case a => omega); (case b => omega))
  | ((with_reducible refine' x_Rg2 ?a ?b ?c ?d ?_); (case a => omega); (case b => omega); (case c => omega); (case d => omega))
  | with_reducible refine' x_AlO ?_)
local macro_rules | `(tactic| walk_at "s") => `(tactic| first
  | with_reducible refine' x_seq ?_
  | with_reducible refine' x_asg ?_
  | with_reducible refine' x_gname ?_
  | ((with_reducible refine' x_var ?h ?_); (case h => exact rfl))
  | with_reducible refine' x_c ?_
  | with_reducible refine' x_op ?_
  | with_reducible refine' x_cons ?_
  | with_reducible refine' x_nil ?_
  | with_reducible refine' x_cb ?_
  | with_reducible refine' x_ret ?_
  | with_reducible refine' x_ifS ?_
  | with_reducible refine' x_test ?_
  | with_reducible refine' x_B ?_
  | with_reducible refine' x_bl ?_
  | with_reducible refine' x_if ?_
  | with_reducible refine' x_call ?_
  | with_reducible refine' x_tup ?_
  | with_reducible refine' x_lst ?_
  | with_reducible refine' x_gcons ?_
  | with_reducible refine' x_gnil ?_
  | with_reducible refine' x_gsub ?_
  | with_reducible refine' x_next ?_
  | with_reducible refine' x_drop ?_
  | with_reducible refine' x_and ?_
  | with_reducible refine' x_or ?_
  | with_reducible refine' x_not ?_
  | with_reducible refine' x_andV ?_
  | with_reducible refine' x_orV ?_
  | with_reducible refine' x_un ?_
  | with_reducible refine' x_chain ?_
  | with_reducible refine' x_sfld ?_
  | with_reducible refine' x_par ?_
  | with_reducible refine' x_par2 ?_
  | with_reducible refine' x_par3 ?_
  | with_reducible refine' x_par33 ?_
  | with_reducible refine' x_fld ?_
  | with_reducible refine' x_meth ?_
  | with_reducible refine' x_bm ?_
  | with_reducible refine' x_bm0 ?_
  | with_reducible refine' x_forL ?_
  | with_reducible refine' x_forT ?_
  | with_reducible refine' x_forR1 ?_
  | with_reducible refine' x_forR2 ?_
  | with_reducible refine' x_lcL ?_
  | with_reducible refine' x_lcT ?_
  | with_reducible refine' x_lcR1 ?_
  | with_reducible refine' x_lcR2 ?_
  | with_reducible refine' x_dnew ?_
  | with_reducible refine' x_retN ?_
  | with_reducible refine' x_ff ?_
  | with_reducible refine' x_lrg1 ?_
  | with_reducible refine' x_disp ?_
  | with_reducible refine' x_pnil ?_
  | with_reducible refine' x_pcons ?_
  | with_reducible refine' x_dget ?_
  | with_reducible refine' x_dput ?_
  | ((with_reducible refine' x_yes ?e ?_); (case e => decide +kernel))
  | ((with_reducible refine' x_no ?e ?_); (case e => decide +kernel))
  | with_reducible refine' x_lrg2 ?_
  | with_reducible refine' x_tt ?_
  | with_reducible refine' x_break ?_
  | walk_at "i")

def Nsc_law_ten : List Str := ["_law_pen", "_law_number", "_law_k"]
theorem sc_law_ten : FnScope Nsc_law_ten ["_law_pen"] (defScope (topS 66)) := ⟨rfl, rfl, rfl, by decide +kernel, rfl, by decide +kernel, by decide +kernel⟩
def Nsc_law_runs : List Str := ["_law_pen", "_law_most", "_law_found", "_law_k", "_law_kind", "_law_count"]
theorem sc_law_runs : FnScope Nsc_law_runs ["_law_pen", "_law_most"] (defScope (topS 67)) := ⟨rfl, rfl, rfl, by decide +kernel, rfl, by decide +kernel, by decide +kernel⟩
section
variable {P : Program} {w : World} {K : PySem.W.Frag} {mg : Str → Option Value} {base : Heap}
def spTen : Sp := fun vs H Q _ => ∃ (p l : Addr) (B : Int), vs = [.ref p] ∧ Pen H p l B ∧ B ≤ 900000 ∧ ∀ (r : Int) (H' : Hp), 1 ≤ r → r ≤ 10 ^ 30 → Pen H' p l (B + 1) → Kp (Pn p l) H H' → Q (.int r) H'
theorem pow_bd {j : Nat} (h : j ≤ 30) : (1 : Int) ≤ 10 ^ j ∧ (10 : Int) ^ j ≤ 10 ^ 30 := by
  have h1 : (10 : Nat) ^ j ≤ 10 ^ 30 := Nat.pow_le_pow_right (by decide) h
  have h2 : ((10 ^ j : Nat) : Int) ≤ ((10 ^ 30 : Nat) : Int) := Int.ofNat_le.mpr h1
  have h3 : 0 < (10 : Nat) ^ j := Nat.pow_pos (by decide)
  have h4 : ((1 : Nat) : Int) ≤ ((10 ^ j : Nat) : Int) := Int.ofNat_le.mpr h3
  rw [Int.natCast_pow, Int.natCast_pow] at h2
  rw [Int.natCast_pow] at h4
  exact ⟨h4, h2⟩
theorem ok_ten {f : Addr} {fd : FuncData} (F : L2.Fun K "_law_ten" "_law_ten" (topS 66) f fd) (m : mg "_law_ten" = some (.ref f)) (b : Binds K fd ["_law_pen"] []) (G : Gm K mg) (c__law_draw : C8.Cal P w K mg base 1 "_law_draw" spDraw []) : C8.Cal P w K mg base 2 "_law_ten" spTen [] := by
  refine calN F m b sc_law_ten (fun vs H Q E h => ?_) (fun cdv A outer s H vs Q E hr h => ?_)
  · obtain ⟨p, l, B, rfl, _⟩ := h
    rfl
  obtain ⟨p, l, B, rfl, hP, hB, k⟩ := h
  refine ⟨_, (pss_cons (ps_set (i := 1) sc_law_ten.nd rfl (Or.inl rfl) pe_int) (pss_cons (ps_for PassesOwn.never rfl (pi_range1 rfl G.range (pa_cons (C8.pe_c c__law_draw hr (by decide) rfl (pa_cons (pv 0) (pa_cons pe_int pa_nil))) pa_nil)) (pg_name (i := 2) sc_law_ten.nd rfl (Or.inl rfl)) (pss_one (ps_set (i := 1) sc_law_ten.nd rfl (Or.inl rfl) (pe_op op_mul (pv 1) pe_int)))) (pss_one (ps_ret (pv 1))))), ?_⟩
  rw [show L2.start Nsc_law_ten [.ref p] = [some (.ref p), none, none] from rfl]; try simp only [cxK, cxK2, cxP, cxW, cxPn, cxWn]
  repeat walk_at "s"
  refine ⟨p, l, 31, B, rfl, hP, by omega, by omega, by omega, fun r H1 r0 r1 hP1 kp1 => ?_⟩
  obtain ⟨n, rfl⟩ : ∃ n : Nat, r = (n : Int) := ⟨r.toNat, by omega⟩
  repeat walk_at "s"
  refine x_ForR (m := n) (by omega) (fun i σ H' => ∃ x2 : Option V, σ = [some (.ref p), some (.int (10 ^ i)), x2] ∧ H' = H1) ?_ ?_ ?_
  · exact ⟨none, rfl, rfl⟩
  · rintro i σ H2 hi ⟨x2, rfl, rfl⟩
    repeat walk_at "s"
    exact ⟨_, by rw [Int.pow_succ] <;> rfl, rfl⟩
  · rintro σ H2 ⟨x2, rfl, rfl⟩
    repeat walk_at "s"
    exact k _ _ (pow_bd (by omega)).1 (pow_bd (by omega)).2 hP1 kp1
def spRuns : Sp := fun vs H Q _ => ∃ (p l : Addr) (B : Int), vs = [.ref p, .int 8] ∧ Pen H p l B ∧ B ≤ 800000 ∧ ∀ (a : Addr) (rs : List Addr) (us : List (Int × Int)) (H' : Hp), RunsOk us → RunsAt (Pn p l) H' rs us → At (Pn p l) H' a (.lst (rs.map V.ref)) → Pen H' p l (B + 50) → Kp (Pn p l) H H' → Q (.ref a) H'
theorem ok_runs {f : Addr} {fd : FuncData} (F : L2.Fun K "_law_runs" "_law_runs" (topS 67) f fd) (m : mg "_law_runs" = some (.ref f)) (b : Binds K fd ["_law_pen", "_law_most"] []) (G : Gm K mg) (c__law_draw : C8.Cal P w K mg base 1 "_law_draw" spDraw [])
    (c__law_ten : C8.Cal P w K mg base 2 "_law_ten" spTen []) : C8.Cal P w K mg base 3 "_law_runs" spRuns [] := by
  refine calN F m b sc_law_runs (fun vs H Q E h => ?_) (fun cdv A outer s H vs Q E hr h => ?_)
  · obtain ⟨p, l, B, rfl, _⟩ := h
    rfl
  obtain ⟨p, l, B, rfl, hP, hB, k⟩ := h
  refine ⟨_, (pss_cons (ps_set (i := 2) sc_law_runs.nd rfl (Or.inl rfl) (pe_lst pa_nil)) (pss_cons (ps_for PassesOwn.never rfl (pi_range1 rfl G.range (pa_cons (C8.pe_c c__law_draw hr (by decide) rfl (pa_cons (pv 0) (pa_cons (pe_op op_add (pv 1) pe_int) pa_nil))) pa_nil)) (pg_name (i := 3) sc_law_runs.nd rfl (Or.inl rfl)) (pss_cons (ps_set (i := 4) sc_law_runs.nd rfl (Or.inl rfl) (C8.pe_c c__law_draw hr (by decide) rfl (pa_cons (pv 0) (pa_cons pe_int pa_nil)))) (C8.pss_cut (ps_set (i := 5) sc_law_runs.nd rfl (Or.inl rfl) (pe_ifExp (pt_cmpR op_lt (pv 4) pe_int (nomark _)) (pe_op op_add pe_int (C8.pe_c c__law_draw hr (by decide) rfl (pa_cons (pv 0) (pa_cons pe_int pa_nil)))) (pe_op op_add (C8.pe_c c__law_ten hr (by decide) rfl (pa_cons (pv 0) pa_nil)) (C8.pe_c c__law_draw hr (by decide) rfl (pa_cons (pv 0) (pa_cons pe_int pa_nil)))))) (pss_one (ps_expr (pe_bm PySem.F.plainAttrs_list PySem.F.slot_list_append PySem.F.type_list_append mt_append (pv 2) (pa_cons (pe_tup (pa_cons (pv 5) (pa_cons (C8.pe_c c__law_draw hr (by decide) rfl (pa_cons (pv 0) (pa_cons pe_int pa_nil))) pa_nil))) pa_nil))))))) (pss_one (ps_ret (pv 2))))), ?_⟩
  rw [show L2.start Nsc_law_runs [.ref p, .int 8] = [some (.ref p), some (.int 8), none, none, none, none] from rfl]; try simp only [cxK, cxK2, cxP, cxW, cxPn, cxWn]
  repeat walk_at "s"
  intro a H1 n1
  obtain ⟨ap, al⟩ := hP.newp n1
  repeat walk_at "s"
  refine ⟨p, l, 9, B, rfl, hP.new n1, by omega, by omega, by omega, fun r H2 r0 r1 hP2 kp2 => ?_⟩
  obtain ⟨n, rfl⟩ : ∃ n : Nat, r = (n : Int) := ⟨r.toNat, by omega⟩
  have nPn : ¬ Pn p l a := fun z => z.elim ap al
  repeat walk_at "s"
  refine x_ForR (m := n) (by omega) (fun i σ H' => ∃ (x3 x4 x5 : Option V) (rs : List Addr) (us : List (Int × Int)), σ = [some (.ref p), some (.int 8), some (.ref a), x3, x4, x5] ∧ us.length = i ∧ RunsOk us ∧ RunsAt (Pn p l) H' rs us ∧ H' a = some (.lst (rs.map V.ref)) ∧ Pen H' p l (B + 1 + 4 * i) ∧ Kp (Pn p l) H H') ?_ ?_ ?_
  · exact ⟨none, none, none, [], [], rfl, rfl, ⟨by decide, fun x h => nomatch h⟩, ⟨rfl, fun i r x h => by simp at h⟩, kp2 _ _ nPn n1.at_, hP2.mono (by omega), n1.kp.trans kp2⟩
  · rintro i σ H3 hi ⟨x3, x4, x5, rs, us, rfl, hl, hu, hr1, ha, hP3, kp3⟩
    repeat walk_at "s"
    refine ⟨p, l, 4, _, rfl, hP3, by omega, by omega, by omega, fun q H4 q0 q1 hP4 kp4 => ?_⟩
    repeat walk_at "s"
    refine x_cut (M := fun σ H' => ∃ c : Int, σ = [some (.ref p), some (.int 8), some (.ref a), some (.int (0 + (i : Int))), some (.int q), some (.int c)] ∧ 1 ≤ c ∧ c ≤ 10 ^ 30 + 1000 ∧ Pen H' p l (B + 1 + 4 * i + 3) ∧ Kp (Pn p l) H4 H') ?_ ?_
    · repeat walk_at "s"
      refine x_ite (fun h => ?_) (fun h => ?_)
      · repeat walk_at "s"
        refine ⟨p, l, 12, _, rfl, hP4, by omega, by omega, by omega, fun z H5 z0 z1 hP5 kp5 => ?_⟩
        repeat walk_at "s"
        exact ⟨_, rfl, by omega, by omega, hP5.mono (by omega), kp5⟩
      · repeat walk_at "s"
        refine ⟨p, l, _, rfl, hP4, by omega, fun z H5 z0 z1 hP5 kp5 => ?_⟩
        repeat walk_at "s"
        refine ⟨p, l, 1000, _, rfl, hP5, by omega, by omega, by omega, fun y H6 y0 y1 hP6 kp6 => ?_⟩
        repeat walk_at "s"
        exact ⟨_, rfl, by omega, by omega, hP6.mono (by omega), kp5.trans kp6⟩
    rintro σ H5 ⟨c, rfl, c0, c1, hP5, kp5⟩
    have ha5 := kp5 _ _ nPn (kp4 _ _ nPn ha)
    have hz : (rs.map V.ref).length < sizeLine := by rw [List.length_map, hr1.1, hl, sizeLine_eq]; omega
    repeat walk_at "s"
    refine ⟨p, l, 7, _, rfl, hP5, by omega, by omega, by omega, fun y H6 y0 y1 hP6 kp6 => ?_⟩
    have ha6 := kp6 _ _ nPn ha5
    repeat walk_at "s"
    intro e7 H7 n7
    have ha7 := n7.up ha6
    repeat walk_at "s"
    intro H8 c8
    refine ⟨_, _, _, rs ++ [e7], us ++ [(c, y)], rfl, by rw [List.length_append, hl] <;> rfl, ⟨by rw [List.length_append]; show us.length + 1 ≤ 8; omega, ?_⟩, ?_, by rw [List.map_append]; exact c8.at_, ((hP6.new n7).chg c8 ap al).mono (by omega), (((((kp3.trans kp4).trans kp5).trans kp6).new n7).chg n1.fresh c8)⟩
    · intro x hx
      rcases List.mem_append.mp hx with hx | hx
      · exact hu.2 x hx
      · rw [List.mem_singleton.mp hx]; exact ⟨c0, c1, y0, by show y ≤ 6; omega⟩
    · exact (((((hr1.up kp4).up kp5).up kp6).up n7.kp).chgT ha7 c8).snoc ((hP6.atN n7).chgT ha7 c8)
  · rintro σ H3 ⟨x3, x4, x5, rs, us, rfl, hl, hu, hr1, ha, hP3, kp3⟩
    repeat walk_at "s"
    exact k a rs us H3 hu hr1 ⟨ha, nPn⟩ (hP3.mono (by omega)) kp3
end
end
end K21
end

section
set_option maxRecDepth 100000
set_option maxHeartbeats 4000000
namespace K21
open PySem PySem.Spec PyProof.Rows L2
noncomputable section
local macro_rules | `(tactic| walk_at "hp") => `(tactic| first
  | assumption
  | ((with_reducible refine' At.h ?q); (case q => assumption))
  | ((with_reducible refine' New.at_ ?q); (case q => assumption))
  | ((with_reducible refine' Chg.at_ ?q); (case q => assumption))
  | ((with_reducible refine' New.up ?n ?q); (case n => assumption); (case q => walk_at "hp"))
  | ((with_reducible refine' Same.up ?n ?q); (case n => assumption); (case q => walk_at "hp")))
local macro_rules | `(tactic| walk_at "sz") => `(tactic| first | exact Nat.le_of_ble_eq_true rfl | assumption | omega)
local macro_rules | `(tactic| walk_at "i") => `(tactic| first
  | with_reducible refine' x_I0 ?_
  | ((with_reducible refine' x_I ?c ?_); (case c => first | (show (_ : Int) ≠ 0; omega) | exact .inr ⟨by decide, by decide⟩ | exact .inl ⟨by decide, by decide⟩ | (refine ⟨?_, ?_⟩ <;> first | decide | omega)))
  | with_reducible refine' x_eqI ?_
  | with_reducible refine' x_neI ?_
  | with_reducible refine' x_eqS ?_
  | with_reducible refine' x_neS ?_
  | with_reducible refine' x_isN ?_
  | with_reducible refine' x_notN ?_
  | with_reducible refine' x_U ?_
  | with_reducible refine' x_int ?_
  | with_reducible refine' x_intB ?_
  | with_reducible refine' x_min2 ?_
  | with_reducible refine' x_max2 ?_
  | ((with_reducible refine' x_ixLh ?h ?v ?_); (case h => walk_at "hp"); (case v => first | exact rfl | assumption))
  | ((with_reducible refine' x_ixTh ?h ?v ?_); (case h => walk_at "hp"); (case v => first | exact rfl | assumption))
  | ((with_reducible refine' x_lenL ?h ?_); (case h => walk_at "hp"))
  | ((with_reducible refine' x_lenT ?h ?_); (case h => walk_at "hp"))
  | ((with_reducible refine' x_gtuph ?h ?l ?_); (case h => walk_at "hp"); (case l => exact rfl))
  | ((with_reducible refine' x_BmAh ?h ?_); (case h => walk_at "hp"))
  | ((with_reducible refine' x_BmA0h ?h ?_); (case h => walk_at "hp"))
  | ((with_reducible refine' x_inStr ?h ?_); (case h => walk_at "hp"))
  | ((with_reducible refine' x_ninStr ?h ?_); (case h => walk_at "hp"))
  | ((with_reducible refine' x_inInt ?h ?_); (case h => walk_at "hp"))
  | ((with_reducible refine' x_ninInt ?h ?_); (case h => walk_at "hp"))
  | ((with_reducible refine' x_inL ?h ?f ?g ?_); (case h => walk_at "hp"); (case f => exact rfl); (case g => first | exact rfl | assumption))
  | ((with_reducible refine' x_inT ?h ?f ?g ?_); (case h => walk_at "hp"); (case f => exact rfl); (case g => first | exact rfl | assumption))
  | ((with_reducible refine' x_notInL ?h ?f ?g ?_); (case h => walk_at "hp"); (case f => exact rfl); (case g => first | exact rfl | assumption))
  | ((with_reducible refine' x_setL ?h ?j ?_); (case h => walk_at "hp"); (case j => first | exact rfl | assumption))
  | ((with_reducible refine' x_append ?h ?l ?_); (case h => walk_at "hp"); (case l => walk_at "sz"))
  | ((with_reducible refine' x_neNil ?h ?g ?_); (case h => walk_at "hp"); (case g => walk_at "hp"))
  | ((with_reducible refine' x_eqNil ?h ?g ?_); (case h => walk_at "hp"); (case g => walk_at "hp"))
  | ((with_reducible refine' x_DgA ?h ?v ?_); (case h => walk_at "hp"); (case v => first | exact stK_at _ _ _ | exact stK_kept _ _ _ | exact stK_left _ _ _ | assumption))
  | ((with_reducible refine' x_AlT ?h ?_); (case h => walk_at "sz"))
  | ((with_reducible refine' x_AlL ?h ?_); (case h => walk_at "sz"))
  | ((with_reducible refine' x_Rg1 ?a ?b ?_); (case a => omega); (case b => omega))
  | ((with_reducible refine' x_Rg2 ?a ?b ?c ?d ?_); (case a => omega); (case b => omega); (case c => omega); (case d => omega))
  | with_reducible refine' x_AlO ?_)
local macro_rules | `(tactic| walk_at "s") => `(tactic| first
  | with_reducible refine' x_seq ?_
  | with_reducible refine' x_asg ?_
  | with_reducible refine' x_gname ?_
  | ((with_reducible refine' x_var ?h ?_); (case h => exact rfl))
  | with_reducible refine' x_c ?_
  | with_reducible refine' x_op ?_
  | with_reducible refine' x_cons ?_
  | with_reducible refine' x_nil ?_
  | with_reducible refine' x_cb ?_
  | with_reducible refine' x_ret ?_
  | with_reducible refine' x_ifS ?_
  | with_reducible refine' x_test ?_
  | with_reducible refine' x_B ?_
  | with_reducible refine' x_bl ?_
  | with_reducible refine' x_if ?_
  | with_reducible refine' x_call ?_
  | with_reducible refine' x_tup ?_
  | with_reducible refine' x_lst ?_
  | with_reducible refine' x_gcons ?_
  | with_reducible refine' x_gnil ?_
  | with_reducible refine' x_gsub ?_
  | with_reducible refine' x_next ?_
  | with_reducible refine' x_drop ?_
  | with_reducible refine' x_and ?_
  | with_reducible refine' x_or ?_
  | with_reducible refine' x_not ?_
  | with_reducible refine' x_andV ?_
  | with_reducible refine' x_orV ?_
  | with_reducible refine' x_un ?_
  | with_reducible refine' x_chain ?_
  | with_reducible refine' x_sfld ?_
  | with_reducible refine' x_par ?_
  | with_reducible refine' x_par2 ?_
  | with_reducible refine' x_par3 ?_
  | with_reducible refine' x_par33 ?_
  | with_reducible refine' x_fld ?_
  | with_reducible refine' x_meth ?_
  | with_reducible refine' x_bm ?_
  | with_reducible refine' x_bm0 ?_
  | with_reducible refine' x_forL ?_
  | with_reducible refine' x_forT ?_
  | with_reducible refine' x_forR1 ?_
  | with_reducible refine' x_forR2 ?_
  | with_reducible refine' x_lcL ?_
  | with_reducible refine' x_lcT ?_
  | with_reducible refine' x_lcR1 ?_
  | with_reducible refine' x_lcR2 ?_
  | with_reducible refine' x_dnew ?_
  | with_reducible refine' x_retN ?_
  | with_reducible refine' x_ff ?_
  | with_reducible refine' x_lrg1 ?_
  | with_reducible refine' x_disp ?_
  | with_reducible refine' x_pnil ?_
  | with_reducible refine' x_pcons ?_
  | with_reducible refine' x_dget ?_
  | with_reducible refine' x_dput ?_
  | ((with_reducible refine' x_yes ?e ?_); (case e => decide +kernel))
  | ((with_reducible refine' x_no ?e ?_); (case e => decide +kernel))
  | with_reducible refine' x_lrg2 ?_
  | with_reducible refine' x_tt ?_
  | with_reducible refine' x_break ?_
  | walk_at "i")

def Nsc_law_lines : List Str := ["_law_pen", "_law_most", "_law_few", "_law_words_here", "_law_names_here", "_law_at"]
theorem sc_law_lines : FnScope Nsc_law_lines ["_law_pen", "_law_most"] (defScope (topS 61)) := ⟨rfl, rfl, rfl, by decide +kernel, rfl, by decide +kernel, by decide +kernel⟩
section
variable {P : Program} {w : World} {K : PySem.W.Frag} {mg : Str → Option Value} {base : Heap}
/-- the lines of a valid reader -/
def spLines : Sp := fun vs H Q _ => ∃ (p l : Addr) (B : Int), vs = [.ref p, .int 8] ∧ Pen H p l B ∧ B ≤ 600000 ∧ ∀ (a : Addr) (xs : List Addr) (R : Rd) (H' : Hp), WF R → LnsAt (Pn p l) H' (nmV R.nm) false xs R → At (Pn p l) H' a (.lst (xs.map V.ref)) → Pen H' p l (B + 600) → Kp (Pn p l) H H' → Q (.ref a) H'
theorem ok_lines {f : Addr} {fd : FuncData} (F : L2.Fun K "_law_lines" "_law_lines" (topS 61) f fd) (m : mg "_law_lines" = some (.ref f)) (b : Binds K fd ["_law_pen", "_law_most"] []) (G : Gm K mg) (c__law_draw : C8.Cal P w K mg base 1 "_law_draw" spDraw [])
    (c__law_words : C8.Cal P w K mg base 3 "_law_words" spWords []) (c__law_names : C8.Cal P w K mg base 3 "_law_names" spNames []) (c__law_line : C8.Cal P w K mg base 5 "_law_line" spLine []) : C8.Cal P w K mg base 6 "_law_lines" spLines [] := by
  refine calN F m b sc_law_lines (fun vs H Q E h => ?_) (fun cdv A outer s H vs Q E hr h => ?_)
  · obtain ⟨p, l, B, rfl, _⟩ := h
    rfl
  obtain ⟨p, l, B, rfl, hP, hB, k⟩ := h
  refine ⟨_, (C8.pss_cut (ps_set (i := 2) sc_law_lines.nd rfl (Or.inl rfl) (pe_ifExp (pt_cmpR op_eq (C8.pe_c c__law_draw hr (by decide) rfl (pa_cons (pv 0) (pa_cons pe_int pa_nil))) pe_int (nomark _)) (C8.pe_c c__law_draw hr (by decide) rfl (pa_cons (pv 0) (pa_cons (pv 1) pa_nil))) (C8.pe_c c__law_draw hr (by decide) rfl (pa_cons (pv 0) (pa_cons (pe_op op_sub (pv 1) pe_int) pa_nil))))) (pss_cons (ps_set (i := 3) sc_law_lines.nd rfl (Or.inr rfl) (C8.pe_c c__law_words hr (by decide) rfl (pa_cons (pv 0) (pa_cons (pe_op op_sub (pv 1) (pv 2)) pa_nil)))) (pss_cons (ps_set (i := 4) sc_law_lines.nd rfl (Or.inr rfl) (C8.pe_c c__law_names hr (by decide) rfl (pa_cons (pv 0) (pa_cons (pe_callB k_len (by rfl) G.len PySem.boot_len (pa_cons (pv 3) pa_nil)) pa_nil)))) (pss_one (ps_ret (pe_lc (own := [("_law_at", 5)]) rfl sc_law_lines.nd (pi_range1 rfl G.range (pa_cons (pe_callB k_len (by rfl) G.len PySem.boot_len (pa_cons (pv 3) pa_nil)) pa_nil)) (blkOk_by (own := [("_law_at", 5)]) (N := Nsc_law_lines) (sc := defScope (topS 61)) (by decide +kernel)) (fun _ _ _ _ _ => (pg_name (i := 5) sc_law_lines.nd rfl (Or.inl rfl))) (fun _ _ _ _ _ => pts_nil) (fun _ _ _ _ _ => (pe_tup (pa_cons (pe_ix (b_ixL (K := K) rfl) (pv 4) (pv 5) (fun _ _ => rfl)) (pa_cons (C8.pe_c c__law_line hr (by decide) rfl (pa_cons (pv 0) (pa_cons (pv 4) (pa_cons (pv 3) (pa_cons (pv 5) pa_nil))))) pa_nil)))))))))), ?_⟩
  rw [show L2.start Nsc_law_lines [.ref p, .int 8] = [some (.ref p), some (.int 8), none, none, none, none] from rfl]; try simp only [cxK, cxK2, cxP, cxW, cxPn, cxWn]
  refine x_cut (M := fun σ H' => ∃ c : Int, σ = [some (.ref p), some (.int 8), some (.int c), none, none, none] ∧ 0 ≤ c ∧ c < 8 ∧ Pen H' p l (B + 2) ∧ Kp (Pn p l) H H') ?_ ?_
  · repeat walk_at "s"
    refine ⟨p, l, 4, B, rfl, hP, by omega, by omega, by omega, fun q H1 q0 q1 hP1 kp1 => ?_⟩
    repeat walk_at "s"
    refine x_ite (fun h => ?_) (fun h => ?_)
    · repeat walk_at "s"
      refine ⟨p, l, 8, _, rfl, hP1, by omega, by omega, by omega, fun z H2 z0 z1 hP2 kp2 => ?_⟩
      repeat walk_at "s"
      exact ⟨z, rfl, z0, z1, hP2.mono (by omega), kp1.trans kp2⟩
    · repeat walk_at "s"
      refine ⟨p, l, 8 - 3, _, rfl, hP1, by omega, by omega, by omega, fun z H2 z0 z1 hP2 kp2 => ?_⟩
      repeat walk_at "s"
      exact ⟨z, rfl, z0, by omega, hP2.mono (by omega), kp1.trans kp2⟩
  rintro σ H1 ⟨c, rfl, c0, c1, hP1, kp1⟩
  repeat walk_at "s"
  refine ⟨p, l, _, _, rfl, hP1, by omega, by omega, by omega, fun aw ws H2 ok hwl hw hP2 kp2 => ?_⟩
  have hw' := hw.h
  repeat walk_at "s"
  have hwO := wsO_len ws
  refine ⟨p, l, _, _, rfl, hP2, by have := ok.pos; omega, by have := ok.le; omega, by omega, fun an nm H3 hns hnl hn hP3 kp3 => ?_⟩
  have hw3 := hw.up kp3
  have hw3' := hw3.h
  have hle := ok.le
  repeat walk_at "s"
  refine x_LcR (m := ws.length) (by omega) (fun D i H' => ∃ (xs : List Addr) (ls : List Ln), ls.length = i ∧ LnsAt (fun b => Pn p l b ∨ b = D) H' (nmV nm) false xs ⟨nm, ls⟩ ∧ (∀ j x, ls[j]? = some x → ws[j]? = some x.wd ∧ x.par ∧ ∀ t ∈ x.tg, GoOk ws j t) ∧ H' D = some (.lst (xs.map V.ref)) ∧ Pen H' p l (B + 160 + 40 * i) ∧ Kp (Pn p l) H3 H' ∧ H3 D = none ∧ D ≠ p ∧ D ≠ l) ?_ ?_ ?_
  · intro D H4 n4
    obtain ⟨a, b⟩ := hP3.newp n4
    exact ⟨[], [], rfl, ⟨rfl, fun i x n l h => by simp at h⟩, (fun j x h => by simp at h), n4.at_, (hP3.new n4).mono (by omega), n4.kp, n4.fresh, a, b⟩
  · rintro D i H4 hi ⟨xs, ls, hl, hxs, hls, hD, hP4, kp4, nD, np, nl⟩
    have hn4 := hn.up kp4
    have hw4 := hw3.up kp4
    have hn4' := hn4.h
    obtain ⟨y, hy⟩ := get_some (l := nm) (i := i) (by omega)
    have hvy : atI (nm.map V.str) (0 + (i : Int)) = some (.str y) := at_of (j := i) (by omega) (map_get hy)
    repeat walk_at "s"
    refine x_LcY rfl ?_
    repeat walk_at "s"
    refine ⟨p, l, an, aw, nm, ws, i, _, (by rw [Int.zero_add] <;> rfl), hP4, hn4, hw4, ok, by omega, hi, by omega, fun la ln H5 hwd hpar hgo hln hP5 kp5 => ?_⟩
    repeat walk_at "s"
    intro e6 H6 n6
    have nPD : ¬ Pn p l D := fun z => z.elim np nl
    have hD6 : H6 D = some (.lst (xs.map V.ref)) := n6.up (kp5 _ _ nPD hD)
    have so : ∀ b, (Pn p l b ∨ b = D) → Old H4 b ∨ H5 b = none := fun b hb => .inl (hb.elim (hP4.dom b) fun e => by rw [e]; show H4 D ≠ none; rw [hD]; exact fun z => nomatch z)
    have kS : ∀ {H' H'' : Hp}, Kp (Pn p l) H' H'' → Kp (fun b => Pn p l b ∨ b = D) H' H'' := fun k => k.sub fun b hb => .inl (.inl hb)
    have hxs5 : xs.length = ls.length := hxs.1
    refine x_App hD6 (by rw [List.length_map, hxs5, hl, sizeLine_eq]; omega) fun H7 c7 => ?_
    have kD : Kp (fun b => Pn p l b ∨ b = D) H6 H7 := c7.kpS (.inr rfl)
    refine ⟨xs ++ [e6], ls ++ [ln], by rw [List.length_append, hl] <;> rfl, ?_, ?_, by rw [List.map_append]; exact c7.at_, ((hP5.new n6).chg c7 np nl).mono (by omega), ((kp4.trans kp5).new n6).chg nD c7, nD, np, nl⟩
    · refine (((hxs.up (kS kp5)).up n6.kp).up kD).snoc (n := y) (la := la) (by rw [hl]; exact hy) (At.up ⟨n6.at_, fun z => z.elim (hP5.nPn n6.fresh) fun e => (by have h := n6.fresh; rw [e, kp5 _ _ nPD hD] at h; cases h)⟩ kD) (((hln.sub so).up n6.kp).up kD)
    · intro j x hx
      rcases snoc_get hx with ⟨h1, h2⟩ | ⟨h1, rfl⟩
      · exact hls j x h2
      · rw [h1, hl]; exact ⟨hwd, hpar, hgo⟩
  · rintro D H4 ⟨xs, ls, hl, hxs, hls, hD, hP4, kp4, nD, np, nl⟩
    have ews : (⟨nm, ls⟩ : Rd).ws = ws := by
      apply List.ext_getElem?
      intro j
      show (ls.map Ln.wd)[j]? = ws[j]?
      by_cases hj : j < ls.length
      · obtain ⟨x, hx⟩ := get_some hj
        rw [map_get hx, (hls j x hx).1]
      · rw [List.getElem?_eq_none (by rw [List.length_map]; omega), List.getElem?_eq_none (by omega)]
    refine k D xs ⟨nm, ls⟩ H4 ⟨by show nm.length = ls.length; omega, by rw [ews]; exact ok, hns, fun i x hx => (hls i x hx).2.1, fun i x hx => by rw [ews]; exact (hls i x hx).2.2⟩ (hxs.sub fun b hb => .inl (.inl hb)) ⟨hD, fun z => z.elim np nl⟩ (hP4.mono (by omega)) (((kp1.trans kp2).trans kp3).trans kp4)
end
end
end K21
end

section
set_option maxRecDepth 100000
set_option maxHeartbeats 4000000
namespace K21
open PySem PySem.Spec PyProof.Rows L2
noncomputable section
local macro_rules | `(tactic| walk_at "hp") => `(tactic| first
  | assumption
  | ((with_reducible refine' At.h ?q); (case q => assumption))
  | ((with_reducible refine' New.at_ ?q); (case q => assumption))
  | ((with_reducible refine' Chg.at_ ?q); (case q => assumption))
  | ((with_reducible refine' New.up ?n ?q); (case n => assumption); (case q => walk_at "hp"))
  | ((with_reducible refine' Same.up ?n ?q); (case n => assumption); (case q => walk_at "hp")))
local macro_rules | `(tactic| walk_at "sz") => `(tactic| first | exact Nat.le_of_ble_eq_true rfl | assumption | omega)
local macro_rules | `(tactic| walk_at "i") => `(tactic| first
  | with_reducible refine' x_I0 ?_
  | ((with_reducible refine' x_I ?c ?_); (case c => first | (show (_ : Int) ≠ 0; omega) | exact .inr ⟨by decide, by decide⟩ | exact .inl ⟨by decide, by decide⟩ | (refine ⟨?_, ?_⟩ <;> first | decide | omega)))
  | with_reducible refine' x_eqI ?_
  | with_reducible refine' x_neI ?_
  | with_reducible refine' x_eqS ?_
  | with_reducible refine' x_neS ?_
  | with_reducible refine' x_isN ?_
  | with_reducible refine' x_notN ?_
  | with_reducible refine' x_U ?_
  | with_reducible refine' x_int ?_
  | with_reducible refine' x_intB ?_
  | with_reducible refine' x_min2 ?_
  | with_reducible refine' x_max2 ?_
  | ((with_reducible refine' x_ixLh ?h ?v ?_); (case h => walk_at "hp"); (case v => first | exact rfl | assumption))
  | ((with_reducible refine' x_ixTh ?h ?v ?_); (case h => walk_at "hp"); (case v => first | exact rfl | assumption))
  | ((with_reducible refine' x_lenL ?h ?_); (case h => walk_at "hp"))
  | ((with_reducible refine' x_lenT ?h ?_); (case h => walk_at "hp"))
  | ((with_reducible refine' x_gtuph ?h ?l ?_); (case h => walk_at "hp"); (case l => exact rfl))
  | ((with_reducible refine' x_BmAh ?h ?_); (case h => walk_at "hp"))
  | ((with_reducible refine' x_BmA0h ?h ?_); (case h => walk_at "hp"))
  | ((with_reducible refine' x_inStr ?h ?_); (case h => walk_at "hp"))
  | ((with_reducible refine' x_ninStr ?h ?_); (case h => walk_at "hp"))
  | ((with_reducible refine' x_inInt ?h ?_); (case h => walk_at "hp"))
  | ((with_reducible refine' x_ninInt ?h ?_); (case h => walk_at "hp"))
  | ((with_reducible refine' x_inL ?h ?f ?g ?_); (case h => walk_at "hp"); (case f => exact rfl); (case g => first | exact rfl | assumption))
  | ((with_reducible refine' x_inT ?h ?f ?g ?_); (case h => walk_at "hp"); (case f => exact rfl); (case g => first | exact rfl | assumption))
  | ((with_reducible refine' x_notInL ?h ?f ?g ?_); (case h => walk_at "hp"); (case f => exact rfl); (case g => first | exact rfl | assumption))
  | ((with_reducible refine' x_setL ?h ?j ?_); (case h => walk_at "hp"); (case j => first | exact rfl | assumption))
  | ((with_reducible refine' x_append ?h ?l ?_); (case h => walk_at "hp"); (case l => walk_at "sz"))
  | ((with_reducible refine' x_neNil ?h ?g ?_); (case h => walk_at "hp"); (case g => walk_at "hp"))
  | ((with_reducible refine' x_eqNil ?h ?g ?_); (case h => walk_at "hp"); (case g => walk_at "hp"))
  | ((with_reducible refine' x_DgA ?h ?v ?_); (case h => walk_at "hp"); (case v => first | exact stK_at _ _ _ | exact stK_kept _ _ _ | exact stK_left _ _ _ | assumption))
  | ((with_reducible refine' x_AlT ?h ?_); (case h => walk_at "sz"))
  | ((with_reducible refine' x_AlL ?h ?_); (case h => walk_at "sz"))
  | ((with_reducible refine' x_Rg1 ?a ?b ?_); (case a => omega); (case b => omega))
  | ((with_reducible refine' x_Rg2 ?a ?b ?c ?d ?_); (case a => omega); (case b => omega); (case c => omega); (case d => omega))
  | with_reducible refine' x_AlO ?_)
local macro_rules | `(tactic| walk_at "s") => `(tactic| first
  | with_reducible refine' x_seq ?_
  | with_reducible refine' x_asg ?_
  | with_reducible refine' x_gname ?_
  | ((with_reducible refine' x_var ?h ?_); (case h => exact rfl))
  | with_reducible refine' x_c ?_
  | with_reducible refine' x_op ?_
  | with_reducible refine' x_cons ?_
  | with_reducible refine' x_nil ?_
  | with_reducible refine' x_cb ?_
  | with_reducible refine' x_ret ?_
  | with_reducible refine' x_ifS ?_
  | with_reducible refine' x_test ?_
  | with_reducible refine' x_B ?_
  | with_reducible refine' x_bl ?_
  | with_reducible refine' x_if ?_
  | with_reducible refine' x_call ?_
  | with_reducible refine' x_tup ?_
  | with_reducible refine' x_lst ?_
  | with_reducible refine' x_gcons ?_
  | with_reducible refine' x_gnil ?_
  | with_reducible refine' x_gsub ?_
  | with_reducible refine' x_next ?_
  | with_reducible refine' x_drop ?_
  | with_reducible refine' x_and ?_
  | with_reducible refine' x_or ?_
  | with_reducible refine' x_not ?_
  | with_reducible refine' x_andV ?_
  | with_reducible refine' x_orV ?_
  | with_reducible refine' x_un ?_
  | with_reducible refine' x_chain ?_
  | with_reducible refine' x_sfld ?_
  | with_reducible refine' x_par ?_
  | with_reducible refine' x_par2 ?_
  | with_reducible refine' x_par3 ?_
  | with_reducible refine' x_par33 ?_
  | with_reducible refine' x_fld ?_
  | with_reducible refine' x_meth ?_
  | with_reducible refine' x_bm ?_
  | with_reducible refine' x_bm0 ?_
  | with_reducible refine' x_forL ?_
  | with_reducible refine' x_forT ?_
  | with_reducible refine' x_forR1 ?_
  | with_reducible refine' x_forR2 ?_
  | with_reducible refine' x_lcL ?_
  | with_reducible refine' x_lcT ?_
  | with_reducible refine' x_lcR1 ?_
  | with_reducible refine' x_lcR2 ?_
  | with_reducible refine' x_dnew ?_
  | with_reducible refine' x_retN ?_
  | with_reducible refine' x_ff ?_
  | with_reducible refine' x_lrg1 ?_
  | with_reducible refine' x_disp ?_
  | with_reducible refine' x_pnil ?_
  | with_reducible refine' x_pcons ?_
  | with_reducible refine' x_dget ?_
  | with_reducible refine' x_dput ?_
  | ((with_reducible refine' x_yes ?e ?_); (case e => decide +kernel))
  | ((with_reducible refine' x_no ?e ?_); (case e => decide +kernel))
  | with_reducible refine' x_lrg2 ?_
  | with_reducible refine' x_tt ?_
  | with_reducible refine' x_break ?_
  | walk_at "i")

def Nsc_law_near : List Str := ["_law_pen", "_law_lines_here", "_law_names_here", "_law_words_here", "_law_at", "_law_name", "_law_line_here", "_law_fresh"]
theorem sc_law_near : FnScope Nsc_law_near ["_law_pen", "_law_lines_here"] (defScope (topS 62)) := ⟨rfl, rfl, rfl, by decide +kernel, rfl, by decide +kernel, by decide +kernel⟩
theorem row_at0 (f : Nat → V) (wa : Addr) (l : Ln) : atI (l.row f wa) 0 = some (.str l.wd.str) := atI_nat (j := 0) (row0 f wa l)
theorem cut_none (xs : List V) (i : Nat) (h : i ≤ xs.length) : cutV xs none (some (i : Int)) = xs.take i := by
  unfold cutV
  rw [HT.sIx_none, HT.sIx_nat, Nat.min_eq_left h] <;> rfl
theorem cut_from (xs : List V) (i : Nat) (h : i ≤ xs.length) : cutV xs (some (i : Int)) none = xs.drop i := by
  unfold cutV
  rw [HT.sIx_none, HT.sIx_nat, Nat.min_eq_left h, List.take_of_length_le (by rw [List.length_drop]; omega)]
theorem x_slL {K : PySem.W.Frag} {a : Addr} {xs : List V} {lo hi : Option Int} {H : Hp} {Q : VK} (h : H a = some (.lst xs)) (k : ∀ p H2, New H H2 p (.lst (cutV xs lo hi)) → Q (.ref p) H2) : rSlL K (.ref a) lo hi H Q := ⟨a, xs, rfl, SqL.of h, fun p hp => k p _ (New.of hp)⟩
theorem x_sl {σ : L2.St} {H : Hp} {Q : VK} {te : TE} {tl th : TO} {r : V → Option Int → Option Int → Hp → VK → Prop} (k : te σ H fun x H1 => tl σ H1 fun l H2 => th σ H2 fun u H3 => r x l u H3 Q) : tSl r te tl th σ H Q := k
theorem x_npart {σ : L2.St} {H : Hp} {Q : Option Int → Hp → Prop} (k : Q none H) : tNoPart σ H Q := k
theorem x_part {σ : L2.St} {H : Hp} {te : TE} {Q : Option Int → Hp → Prop} (k : te σ H fun x H1 => ∃ i, x = .int i ∧ Q (some i) H1) : tPart te σ H Q := k
theorem take_drop {α : Type} {l : List α} {i : Nat} {x y : α} (h : l[i]? = some x) : l.take i ++ [y] ++ l.drop (i + 1) = l.set i y := by
  rw [List.set_eq_take_append_cons_drop, if_pos (get_lt h), List.append_assoc] <;> rfl
/-- a line of a valid reader changed -/
theorem WF.set {R : Rd} (wf : WF R) {i : Nat} {ln ln' : Ln} (hl : R.ln[i]? = some ln) (hp : ln'.par) (hg : ∀ t ∈ ln'.tg, GoOk R.ws i t) (hw : ln'.wd = ln.wd ∨ (ln'.wd.look = true ∧ ln.wd.look = true)) : WF ⟨R.nm, R.ln.set i ln'⟩ := by
  have e : (Rd.mk R.nm (R.ln.set i ln')).ws = R.ws.set i ln'.wd := by show (R.ln.set i ln').map Ln.wd = _; rw [List.map_set] <;> rfl
  have hwi : R.ws[i]? = some ln.wd := map_get hl
  have hi : i < R.ln.length := get_lt hl
  have hiw : i < R.ws.length := get_lt hwi
  have lk : ∀ (j : Nat) (x y : Wd), R.ws[j]? = some x → (R.ws.set i ln'.wd)[j]? = some y → y.look = x.look := by
    intro j x y hx hy
    by_cases hj : i = j
    · subst hj
      rw [hwi] at hx
      cases hx
      rw [List.getElem?_set_self hiw] at hy
      cases hy
      rcases hw with h | ⟨h1, h2⟩
      · rw [h]
      · rw [h1, h2]
    · rw [List.getElem?_set_ne hj] at hy
      rw [hx] at hy
      cases hy
      rfl
  refine ⟨by show R.nm.length = (R.ln.set i ln').length; rw [List.length_set]; exact wf.len, ?_, wf.ns, ?_, ?_⟩
  · rw [e]
    refine ⟨by rw [List.length_set]; exact wf.ws.pos, by rw [List.length_set]; exact wf.ws.le, ?_, ?_⟩
    · intro y hy
      obtain ⟨x, hx⟩ := get_some (l := R.ws) (i := 0) wf.ws.pos
      by_cases hj : i = 0
      · subst hj
        rw [List.getElem?_set_self hiw] at hy
        cases hy
        rcases hw with h | ⟨h1, h2⟩
        · rw [h]; exact wf.ws.fst _ hwi
        · exact .inl h1
      · rw [List.getElem?_set_ne hj] at hy
        exact wf.ws.fst _ hy
    · obtain ⟨j, x, hx, hlk⟩ := wf.ws.lk
      obtain ⟨y, hy⟩ := get_some (l := R.ws.set i ln'.wd) (i := j) (by rw [List.length_set]; exact get_lt hx)
      exact ⟨j, y, hy, by rw [lk j x y hx hy]; exact hlk⟩
  · intro j l h
    by_cases hj : i = j
    · subst hj
      have h : (R.ln.set i ln')[i]? = some l := h
      rw [List.getElem?_set_self hi] at h
      cases h
      exact hp
    · have h : (R.ln.set i ln')[j]? = some l := h
      rw [List.getElem?_set_ne hj] at h
      exact wf.par j l h
  · intro j l h t ht
    rw [e]
    refine GoOk.of_look (ws := R.ws) (List.length_set ..) lk ?_
    by_cases hj : i = j
    · subst hj
      have h : (R.ln.set i ln')[i]? = some l := h
      rw [List.getElem?_set_self hi] at h
      cases h
      exact hg t ht
    · have h : (R.ln.set i ln')[j]? = some l := h
      rw [List.getElem?_set_ne hj] at h
      exact wf.go j l h t ht
theorem LnsAt.set {S : Addr → Prop} {H : Hp} {f : Nat → V} {tu : Bool} {xs : List Addr} {nm : List Str} {ls : List Ln} {q la : Addr} {l : Ln} {n : Str} {i : Nat} (h : LnsAt S H f tu xs ⟨nm, ls⟩) (hi : i < xs.length) (hn : nm[i]? = some n) (hq : At S H q (.tup [.str n, .ref la])) (hl : LnAt S H f tu la l) :
    LnsAt S H f tu (xs.set i q) ⟨nm, ls.set i l⟩ := by
  have h0 : xs.length = ls.length := h.1
  refine ⟨by show (xs.set i q).length = (ls.set i l).length; rw [List.length_set, List.length_set, h0], fun j x n' l' hx hn' hl' => ?_⟩
  have hl' : (ls.set i l)[j]? = some l' := hl'
  have hn' : nm[j]? = some n' := hn'
  by_cases hj : i = j
  · subst hj
    rw [List.getElem?_set_self hi] at hx
    rw [List.getElem?_set_self (by omega)] at hl'
    cases hx
    cases hl'
    rw [hn] at hn'
    cases hn'
    exact ⟨la, hq, hl⟩
  · rw [List.getElem?_set_ne hj] at hx hl'
    exact h.2 j x n' l' hx hn' hl'
section
variable {P : Program} {w : World} {K : PySem.W.Frag} {mg : Str → Option Value} {base : Heap}
/-- the lines of a valid reader, one of them changed -/
def spNear : Sp := fun vs H Q _ => ∃ (p l a : Addr) (xs : List Addr) (R : Rd) (B : Int), vs = [.ref p, .ref a] ∧ Pen H p l B ∧ WF R ∧ LnsAt (Pn p l) H (nmV R.nm) false xs R ∧ At (Pn p l) H a (.lst (xs.map V.ref)) ∧ B ≤ 600000 ∧
  ∀ (a' : Addr) (xs' : List Addr) (R' : Rd) (H' : Hp), WF R' → LnsAt (Pn p l) H' (nmV R'.nm) false xs' R' → At (Pn p l) H' a' (.lst (xs'.map V.ref)) → Pen H' p l (B + 60) → Kp (Pn p l) H H' → Q (.ref a') H'
theorem ok_near {f : Addr} {fd : FuncData} (F : L2.Fun K "_law_near" "_law_near" (topS 62) f fd) (m : mg "_law_near" = some (.ref f)) (b : Binds K fd ["_law_pen", "_law_lines_here"] []) (G : Gm K mg) (c__law_draw : C8.Cal P w K mg base 1 "_law_draw" spDraw [])
    (c__law_pick : C8.Cal P w K mg base 2 "_law_pick" spPick []) (c__law_line : C8.Cal P w K mg base 5 "_law_line" spLine []) : C8.Cal P w K mg base 6 "_law_near" spNear [] := by
  refine calN F m b sc_law_near (fun vs H Q E h => ?_) (fun cdv A outer s H vs Q E hr h => ?_)
  · obtain ⟨p, l, a, xs, R, B, rfl, _⟩ := h
    rfl
  obtain ⟨p, l, a, xs, R, B, rfl, hP, wf, hxs, ha, hB, k⟩ := h
  refine ⟨_, (pss_cons (ps_setLc (i := 2) (own := [("_law_name", 5), ("_law_line_here", 6)]) rfl sc_law_near.nd rfl rfl (sw_true rfl rfl rfl (by decide +kernel)) (pi_list (pv 1)) (blkOk_by (own := [("_law_name", 5), ("_law_line_here", 6)]) (N := Nsc_law_near) (sc := defScope (topS 62)) (by decide +kernel)) (fun _ _ _ _ _ => (b_gtup (K := K) (n := 2) rfl rfl (pgs_cons (pg_name (i := 5) sc_law_near.nd rfl (Or.inl rfl)) (pgs_cons (pg_name (i := 6) sc_law_near.nd rfl (Or.inl rfl)) pgs_nil)))) (fun _ _ _ _ _ => pts_nil) (fun _ _ _ _ _ => (pv 5))) (pss_cons (ps_setLc (i := 3) (own := [("_law_name", 5), ("_law_line_here", 6)]) rfl sc_law_near.nd rfl rfl (sw_true rfl rfl rfl (by decide +kernel)) (pi_list (pv 1)) (blkOk_by (own := [("_law_name", 5), ("_law_line_here", 6)]) (N := Nsc_law_near) (sc := defScope (topS 62)) (by decide +kernel)) (fun _ _ _ _ _ => (b_gtup (K := K) (n := 2) rfl rfl (pgs_cons (pg_name (i := 5) sc_law_near.nd rfl (Or.inl rfl)) (pgs_cons (pg_name (i := 6) sc_law_near.nd rfl (Or.inl rfl)) pgs_nil)))) (fun _ _ _ _ _ => pts_nil) (fun _ _ _ _ _ => (pe_ix (b_ixT (K := K) rfl) (pv 6) pe_int (fun _ _ => rfl)))) (pss_cons (ps_set (i := 4) sc_law_near.nd rfl (Or.inl rfl) (C8.pe_c c__law_draw hr (by decide) rfl (pa_cons (pv 0) (pa_cons (pe_callB k_len (by rfl) G.len PySem.boot_len (pa_cons (pv 1) pa_nil)) pa_nil)))) (pss_cons (ps_asg (pe_ix ix_list (pv 1) (pv 4) (fun _ _ => rfl)) (pg_tup rfl (pgs_cons (pg_name (i := 5) sc_law_near.nd rfl (Or.inl rfl)) (pgs_cons (pg_name (i := 6) sc_law_near.nd rfl (Or.inl rfl)) pgs_nil)))) (pss_cons (ps_set (i := 7) sc_law_near.nd rfl (Or.inl rfl) (C8.pe_c c__law_line hr (by decide) rfl (pa_cons (pv 0) (pa_cons (pv 2) (pa_cons (pv 3) (pa_cons (pv 4) pa_nil)))))) (C8.pss_cut (ps_if (PW.pt (pw_and (pt_cmpR op_eq (pe_ix ix_tup (pv 6) pe_int (fun _ _ => rfl)) pe_str (nomark _)) (pw_and1 (pt_cmpR op_eq (C8.pe_c c__law_draw hr (by decide) rfl (pa_cons (pv 0) (pa_cons pe_int pa_nil))) pe_int (nomark _))))) (pss_one (ps_set (i := 7) sc_law_near.nd rfl (Or.inl rfl) (pe_tup (pa_cons pe_str (pa_cons (pe_ifExp (pt_cmpR op_lt (pe_ix ix_tup (pv 6) pe_int (fun _ _ => rfl)) pe_int (nomark _)) (pe_op op_add (pe_ix ix_tup (pv 6) pe_int (fun _ _ => rfl)) pe_int) pe_int) (pa_cons (pe_ix ix_tup (pv 6) pe_int (fun _ _ => rfl)) pa_nil)))))) (pss_one (ps_if (pt_cmpR op_in_seq (pe_ix ix_tup (pv 6) pe_int (fun _ _ => rfl)) (pe_tup (pa_cons pe_str (pa_cons pe_str (pa_cons pe_str pa_nil)))) (by rfl)) (pss_one (ps_set (i := 7) sc_law_near.nd rfl (Or.inl rfl) (C8.pe_c c__law_pick hr (by decide) rfl (pa_cons (pv 0) (pa_cons (pe_lst (pa_cons (pe_tup (pa_cons pe_str (pa_cons (pe_ix ix_tup (pv 6) (pe_un un_neg pe_int) (fun _ _ => rfl)) pa_nil))) (pa_cons (pe_tup (pa_cons pe_str (pa_cons pe_int (pa_cons (pe_ix ix_tup (pv 6) (pe_un un_neg pe_int) (fun _ _ => rfl)) pa_nil)))) (pa_cons (pe_tup (pa_cons pe_str (pa_cons pe_int (pa_cons (pe_ix ix_tup (pv 6) (pe_un un_neg pe_int) (fun _ _ => rfl)) pa_nil)))) pa_nil)))) pa_nil))))) pss_nil))) (pss_one (ps_ret (pe_op k_cat (pe_op k_cat (pe_slice sl_list (pv 1) po_none (po_some (pv 4))) (pe_lst (pa_cons (pe_tup (pa_cons (pv 5) (pa_cons (pv 7) pa_nil))) pa_nil))) (pe_slice sl_list (pv 1) (po_some (pe_op op_add (pv 4) pe_int)) po_none)))))))))), ?_⟩
  rw [show L2.start Nsc_law_near [.ref p, .ref a] = [some (.ref p), some (.ref a), none, none, none, none, none, none] from rfl]; try simp only [cxK, cxK2, cxP, cxW, cxPn, cxWn]
  have hx0 : xs.length = R.ln.length := hxs.1
  have hle : R.ln.length ≤ 8 := by have h := wf.ws.le; rw [Rd.ws, List.length_map] at h; exact h
  have hps : 0 < R.ln.length := by have h := wf.ws.pos; rw [Rd.ws, List.length_map] at h; exact h
  have ha' := ha.h
  have hnl := wf.len
  -- a pair at a place
  have pr : ∀ (i : Nat) x H1, xs[i]? = some x → Kp (Pn p l) H H1 → ∃ n ln la wa, R.nm[i]? = some n ∧ R.ln[i]? = some ln ∧ H1 x = some (.tup [.str n, .ref la]) ∧ H1 la = some (.tup (ln.row (nmV R.nm) wa)) := by
    intro i x H1 hx k1
    have hi := get_lt hx
    obtain ⟨n, hn⟩ := get_some (l := R.nm) (i := i) (by omega)
    obtain ⟨ln, hl⟩ := get_some (l := R.ln) (i := i) (by omega)
    obtain ⟨la, h1, wa, h2, _⟩ := hxs.2 i x n ln hx hn hl
    exact ⟨n, ln, la, wa, hn, hl, (h1.up k1).h, (h2.up k1).h⟩
  repeat walk_at "s"
  refine x_LcLF ha' (by rw [List.length_map]; omega) (fun _ => true) (fun i => nmV R.nm i) ?_ ?_
  · intro i x H1 hx s1 R1 kR
    obtain ⟨x, hx', rfl⟩ := map_some hx
    obtain ⟨n, ln, la, wa, hn, hl, h1, h2⟩ := pr i x H1 hx' (Kp.same s1)
    repeat walk_at "s"
    refine kR _ rfl EvB.yes fun _ H2 s2 Q2 k2 => ?_
    repeat walk_at "s"
    rw [← nmV_of hn]
    exact k2 _ (Same.refl _)
  intro an H1 n1
  have hn1 : At (Pn p l) H1 an (.lst (R.nm.map V.str)) := by
    have h := hP.atN n1
    rw [gv_all, List.length_map, hx0, ← wf.len] at h
    have e : ((List.range R.nm.length).map fun i => nmV R.nm i) = R.nm.map V.str := range_map R.nm Str.empty V.str
    rw [e] at h
    exact h
  have hP1 := hP.new n1
  have ha1 := n1.up ha'
  repeat walk_at "s"
  refine x_LcLF ha1 (by rw [List.length_map]; omega) (fun _ => true) (fun i => V.str (wdAt R.ws i).str) ?_ ?_
  · intro i x H2 hx s2 R1 kR
    obtain ⟨x, hx', rfl⟩ := map_some hx
    obtain ⟨n, ln, la, wa, hn, hl, h1, h2⟩ := pr i x H2 hx' (n1.kp.trans (Kp.same s2))
    repeat walk_at "s"
    refine kR _ rfl EvB.yes fun _ H3 s3 Q2 k2 => ?_
    have h3 := s3 _ _ h2
    have hv := row_at0 (nmV R.nm) wa ln
    repeat walk_at "s"
    rw [show ln.wd = wdAt R.ws i from (wdAt_of (map_get hl)).symm]
    exact k2 _ (Same.refl _)
  intro aw H2 n2
  have hw2 : At (Pn p l) H2 aw (.lst (wsO R.ws)) := by
    have h := hP1.atN n2
    rw [gv_all, List.length_map, hx0] at h
    have e : ((List.range R.ln.length).map fun i => V.str (wdAt R.ws i).str) = wsO R.ws := by
      have e1 : R.ln.length = R.ws.length := by rw [Rd.ws, List.length_map]
      rw [e1, show wsO R.ws = R.ws.map (fun x => V.str x.str) by rw [wsO, List.map_map] <;> rfl]
      exact range_map R.ws .rfs fun x => V.str x.str
    rw [e] at h
    exact h
  have hP2 := hP1.new n2
  have ha2 := n2.up ha1
  have hn2 := hn1.up n2.kp
  have kp2 : Kp (Pn p l) H H2 := n1.kp.new n2
  repeat walk_at "s"
  refine ⟨p, l, _, B, rfl, hP2, by rw [List.length_map]; omega, by rw [List.length_map]; omega, by omega, fun r H3 r0 r1 hP3 kp3 => ?_⟩
  rw [List.length_map] at r1
  obtain ⟨i, rfl⟩ : ∃ i : Nat, r = (i : Int) := ⟨r.toNat, by omega⟩
  have hi : i < xs.length := by omega
  obtain ⟨x, hx⟩ := get_some hi
  have ha3 := (ha.up (kp2.trans kp3))
  have ha3' := ha3.h
  have hvx : atI (xs.map V.ref) (i : Int) = some (.ref x) := at_map hx
  obtain ⟨n, ln, la, wa, hn, hl, h1, h2⟩ := pr i x H3 hx (kp2.trans kp3)
  have hwi : R.ws[i]? = some ln.wd := map_get hl
  repeat walk_at "s"
  refine ⟨p, l, an, aw, R.nm, R.ws, i, _, rfl, hP3, hn2.up kp3, hw2.up kp3, wf.ws, by rw [Rd.ws, List.length_map]; exact wf.len, get_lt hwi, by omega, fun fa fn H4 hwd hpar hgo hfn hP4 kp4 => ?_⟩
  have h24 : At (Pn p l) H4 la (.tup (ln.row (nmV R.nm) wa)) := by
    obtain ⟨la', g1, wa', g2, _⟩ := hxs.2 i x n ln hx hn hl
    have e1 := (g1.up ((kp2.trans kp3))).h
    rw [h1] at e1
    cases e1
    have e2 := (g2.up ((kp2.trans kp3))).h
    rw [h2] at e2
    have g3 := g2.up ((kp2.trans kp3).trans kp4)
    rw [← (HO.tup.inj (Option.some.inj e2))] at g3
    exact g3
  have hfn' : LnAt (Pn p l) H4 (nmV R.nm) false fa fn := hfn.sub fun b hb => .inl (hP3.dom b hb)
  have hgl := wf.go i ln hl
  have hpl := wf.par i ln hl
  repeat walk_at "s"
  refine x_cut (M := fun σ' H' => ∃ fa' ln', σ' = ((((([some (V.ref p), some (V.ref a), none, none, none, none, none, none].set 2 (some (V.ref an))).set 3 (some (V.ref aw))).set 4 (some (V.int i))).set 5 (some (V.str n))).set 6 (some (V.ref la))).set 7 (some (V.ref fa')) ∧
    LnAt (Pn p l) H' (nmV R.nm) false fa' ln' ∧ ln'.par ∧ (∀ t ∈ ln'.tg, GoOk R.ws i t) ∧ (ln'.wd = ln.wd ∨ (ln'.wd.look = true ∧ ln.wd.look = true)) ∧ Pen H' p l (B + 50) ∧ Kp (Pn p l) H4 H') ?_ ?_
  · have stay : ∀ H5, Pen H5 p l (B + 50) → Kp (Pn p l) H4 H5 → ∃ fa' ln', ((((([some (V.ref p), some (V.ref a), none, none, none, none, none, none].set 2 (some (V.ref an))).set 3 (some (V.ref aw))).set 4 (some (V.int i))).set 5 (some (V.str n))).set 6 (some (V.ref la))).set 7 (some (V.ref fa)) = ((((([some (V.ref p), some (V.ref a), none, none, none, none, none, none].set 2 (some (V.ref an))).set 3 (some (V.ref aw))).set 4 (some (V.int i))).set 5 (some (V.str n))).set 6 (some (V.ref la))).set 7 (some (V.ref fa')) ∧
    LnAt (Pn p l) H5 (nmV R.nm) false fa' ln' ∧ ln'.par ∧ (∀ t ∈ ln'.tg, GoOk R.ws i t) ∧ (ln'.wd = ln.wd ∨ (ln'.wd.look = true ∧ ln.wd.look = true)) ∧ Pen H5 p l (B + 50) ∧ Kp (Pn p l) H4 H5 := fun H5 hP5 kp5 =>
      ⟨fa, fn, rfl, hfn'.up kp5, hpar, hgo, .inl (Option.some.inj (hwd.symm.trans hwi)), hP5, kp5⟩
    have hP4' : Pen H4 p l (B + 50) := hP4.mono (by omega)
    have h24' := h24.h
    cases ln with
    | cas ws o =>
      have h5 : H4 la = some (.tup [.str Wd.cas.str, .ref wa, nmV R.nm o]) := h24'
      repeat walk_at "s"
      intro q H5 n5
      repeat walk_at "s"
      exact stay H5 (hP4'.new n5) n5.kp
    | jmp v t =>
      have h5 : H4 la = some (.tup [.str Wd.jmp.str, .int v, nmV R.nm t]) := h24'
      repeat walk_at "s"
      intro q H5 n5
      repeat walk_at "s"
      exact stay H5 (hP4'.new n5) n5.kp
    | set v t =>
      have h5 : H4 la = some (.tup [.str Wd.set.str, .int v, nmV R.nm t]) := h24'
      repeat walk_at "s"
      intro q H5 n5
      repeat walk_at "s"
      exact stay H5 (hP4'.new n5) n5.kp
    | upt v t u =>
      have h5 : H4 la = some (.tup [.str Wd.upt.str, .int v, nmV R.nm t, nmV R.nm u]) := h24'
      repeat walk_at "s"
      intro q H5 n5
      repeat walk_at "s"
      exact stay H5 (hP4'.new n5) n5.kp
    | cut =>
      have h5 : H4 la = some (.tup [.str Wd.cut.str]) := h24'
      repeat walk_at "s"
      intro q H5 n5
      repeat walk_at "s"
      exact stay H5 (hP4'.new n5) n5.kp
    | rfs =>
      have h5 : H4 la = some (.tup [.str Wd.rfs.str]) := h24'
      repeat walk_at "s"
      intro q H5 n5
      repeat walk_at "s"
      exact stay H5 (hP4'.new n5) n5.kp
    | skp c t =>
      have h5 : H4 la = some (.tup [.str Wd.skp.str, .int c, nmV R.nm t]) := h24'
      have hgt : GoOk R.ws i t := hgl t (List.mem_singleton.mpr rfl)
      repeat walk_at "s"
      refine ⟨p, l, _, B + 1 + 40, rfl, hP4, by decide, by decide, by omega, fun r H5 r0 r1 hP5 kp5 => ?_⟩
      have h6 := kp5 _ _ h24.2 h5
      repeat walk_at "s"
      refine x_ite (fun hr0 => ?_) (fun hr0 => ?_)
      · repeat walk_at "s"
        have fin : ∀ c', -3 ≤ c' ∧ c' ≤ 4 → ∀ q H6, New H5 H6 q (.tup [.str "skip", .int c', nmV R.nm t]) → ∃ fa' ln', ((((([some (V.ref p), some (V.ref a), none, none, none, none, none, none].set 2 (some (V.ref an))).set 3 (some (V.ref aw))).set 4 (some (V.int i))).set 5 (some (V.str n))).set 6 (some (V.ref la))).set 7 (some (V.ref q)) = ((((([some (V.ref p), some (V.ref a), none, none, none, none, none, none].set 2 (some (V.ref an))).set 3 (some (V.ref aw))).set 4 (some (V.int i))).set 5 (some (V.str n))).set 6 (some (V.ref la))).set 7 (some (V.ref fa')) ∧
          LnAt (Pn p l) H6 (nmV R.nm) false fa' ln' ∧ ln'.par ∧ (∀ t ∈ ln'.tg, GoOk R.ws i t) ∧ (ln'.wd = (Ln.skp c t).wd ∨ (ln'.wd.look = true ∧ (Ln.skp c t).wd.look = true)) ∧ Pen H6 p l (B + 50) ∧ Kp (Pn p l) H4 H6 := fun c' hc' q H6 n6 =>
          ⟨q, .skp c' t, rfl, ⟨la, hP5.atN n6, fun ws o => nofun⟩, hc', fun u hu => by rw [List.mem_singleton.mp hu]; exact hgt, .inl rfl, (hP5.new n6).mono (by omega), kp5.new n6⟩
        have hc : -3 ≤ c ∧ c ≤ 4 := hpl
        refine x_ite (fun h0 => ?_) (fun h0 => ?_)
        · repeat walk_at "s"
          intro q H6 n6
          repeat walk_at "s"
          exact fin (c + 1) (by omega) q H6 n6
        · repeat walk_at "s"
          intro q H6 n6
          repeat walk_at "s"
          exact fin 0 (by omega) q H6 n6
      · repeat walk_at "s"
        intro q H6 n6
        repeat walk_at "s"
        exact stay H6 ((hP5.new n6).mono (by omega)) (kp5.new n6)
    | tak t =>
      have h5 : H4 la = some (.tup [.str Wd.tak.str, nmV R.nm t]) := h24'
      have hgt : GoOk R.ws i t := hgl t (List.mem_singleton.mpr rfl)
      repeat walk_at "s"
      intro q H5 n5
      have h6 := n5.up h5
      repeat walk_at "s"
      intro q1 H6 n6
      have h7 := n6.up h6
      repeat walk_at "s"
      intro q2 H7 n7
      have h8 := n7.up h7
      repeat walk_at "s"
      intro q3 H8 n8
      repeat walk_at "s"
      intro ar H9 n9
      have hP9 : Pen H9 p l (B + 41) := ((((hP4.new n5).new n6).new n7).new n8).new n9 |>.mono (by omega)
      have k9 : Kp (Pn p l) H4 H9 := ((((n5.kp.new n6).new n7).new n8).new n9)
      have b1 : At (Pn p l) H9 q1 (.tup [.str "take", nmV R.nm t]) := ((hP4.new n5).atN n6).up (((n7.kp.new n8).new n9))
      have b2 : At (Pn p l) H9 q2 (.tup [.str "rest", .int 4, nmV R.nm t]) := (((hP4.new n5).new n6).atN n7).up (n8.kp.new n9)
      have b3 : At (Pn p l) H9 q3 (.tup [.str "cap", .int 5, nmV R.nm t]) := ((((hP4.new n5).new n6).new n7).atN n8).up n9.kp
      have b9 : At (Pn p l) H9 ar (.lst [.ref q1, .ref q2, .ref q3]) := (((((hP4.new n5).new n6).new n7).new n8)).atN n9
      refine ⟨p, l, B + 41, ar, _, rfl, hP9, b9, Nat.zero_lt_succ _, Nat.le_of_ble_eq_true rfl, by omega, fun j vv Ha hv hPa kpa => ?_⟩
      have kk := k9.trans kpa
      have done : ∀ (fa' : Addr) (ln' : Ln) (wa' : Addr), vv = .ref fa' → At (Pn p l) H9 fa' (.tup (ln'.row (nmV R.nm) wa')) → (∀ ws o, ln' ≠ .cas ws o) → ln'.par → ln'.tg = [t] → ln'.wd.look = true → ∃ fa' ln', ((((([some (V.ref p), some (V.ref a), none, none, none, none, none, none].set 2 (some (V.ref an))).set 3 (some (V.ref aw))).set 4 (some (V.int i))).set 5 (some (V.str n))).set 6 (some (V.ref la))).set 7 (some vv) = ((((([some (V.ref p), some (V.ref a), none, none, none, none, none, none].set 2 (some (V.ref an))).set 3 (some (V.ref aw))).set 4 (some (V.int i))).set 5 (some (V.str n))).set 6 (some (V.ref la))).set 7 (some (V.ref fa')) ∧
        LnAt (Pn p l) Ha (nmV R.nm) false fa' ln' ∧ ln'.par ∧ (∀ t ∈ ln'.tg, GoOk R.ws i t) ∧ (ln'.wd = (Ln.tak t).wd ∨ (ln'.wd.look = true ∧ (Ln.tak t).wd.look = true)) ∧ Pen Ha p l (B + 50) ∧ Kp (Pn p l) H4 Ha := fun fa' ln' wa' e1 e2 e3 e4 e5 e6 =>
        ⟨fa', ln', by rw [e1], ⟨wa', e2.up kpa, fun ws o z => absurd z (e3 ws o)⟩, e4, fun u hu => by rw [e5] at hu; rw [List.mem_singleton.mp hu]; exact hgt, .inr ⟨e6, rfl⟩, hPa.mono (by omega), kk⟩
      show ∃ fa' ln', _
      rcases j with _ | _ | _ | j
      · exact done q1 (.tak t) q1 (Option.some.inj hv).symm b1 (fun _ _ => Ln.noConfusion) trivial rfl rfl
      · exact done q2 (.rst 4 t) q1 (Option.some.inj hv).symm b2 (fun _ _ => Ln.noConfusion) ⟨by decide, by decide⟩ rfl rfl
      · exact done q3 (.cap 5 t) q1 (Option.some.inj hv).symm b3 (fun _ _ => Ln.noConfusion) ⟨by decide, by decide⟩ rfl rfl
      · exact nomatch hv
    | rst v t =>
      have h5 : H4 la = some (.tup [.str Wd.rst.str, .int v, nmV R.nm t]) := h24'
      have hgt : GoOk R.ws i t := hgl t (List.mem_singleton.mpr rfl)
      repeat walk_at "s"
      intro q H5 n5
      have h6 := n5.up h5
      repeat walk_at "s"
      intro q1 H6 n6
      have h7 := n6.up h6
      repeat walk_at "s"
      intro q2 H7 n7
      have h8 := n7.up h7
      repeat walk_at "s"
      intro q3 H8 n8
      repeat walk_at "s"
      intro ar H9 n9
      have hP9 : Pen H9 p l (B + 41) := ((((hP4.new n5).new n6).new n7).new n8).new n9 |>.mono (by omega)
      have k9 : Kp (Pn p l) H4 H9 := ((((n5.kp.new n6).new n7).new n8).new n9)
      have b1 : At (Pn p l) H9 q1 (.tup [.str "take", nmV R.nm t]) := ((hP4.new n5).atN n6).up (((n7.kp.new n8).new n9))
      have b2 : At (Pn p l) H9 q2 (.tup [.str "rest", .int 4, nmV R.nm t]) := (((hP4.new n5).new n6).atN n7).up (n8.kp.new n9)
      have b3 : At (Pn p l) H9 q3 (.tup [.str "cap", .int 5, nmV R.nm t]) := ((((hP4.new n5).new n6).new n7).atN n8).up n9.kp
      have b9 : At (Pn p l) H9 ar (.lst [.ref q1, .ref q2, .ref q3]) := (((((hP4.new n5).new n6).new n7).new n8)).atN n9
      refine ⟨p, l, B + 41, ar, _, rfl, hP9, b9, Nat.zero_lt_succ _, Nat.le_of_ble_eq_true rfl, by omega, fun j vv Ha hv hPa kpa => ?_⟩
      have kk := k9.trans kpa
      have done : ∀ (fa' : Addr) (ln' : Ln) (wa' : Addr), vv = .ref fa' → At (Pn p l) H9 fa' (.tup (ln'.row (nmV R.nm) wa')) → (∀ ws o, ln' ≠ .cas ws o) → ln'.par → ln'.tg = [t] → ln'.wd.look = true → ∃ fa' ln', ((((([some (V.ref p), some (V.ref a), none, none, none, none, none, none].set 2 (some (V.ref an))).set 3 (some (V.ref aw))).set 4 (some (V.int i))).set 5 (some (V.str n))).set 6 (some (V.ref la))).set 7 (some vv) = ((((([some (V.ref p), some (V.ref a), none, none, none, none, none, none].set 2 (some (V.ref an))).set 3 (some (V.ref aw))).set 4 (some (V.int i))).set 5 (some (V.str n))).set 6 (some (V.ref la))).set 7 (some (V.ref fa')) ∧
        LnAt (Pn p l) Ha (nmV R.nm) false fa' ln' ∧ ln'.par ∧ (∀ t ∈ ln'.tg, GoOk R.ws i t) ∧ (ln'.wd = (Ln.rst v t).wd ∨ (ln'.wd.look = true ∧ (Ln.rst v t).wd.look = true)) ∧ Pen Ha p l (B + 50) ∧ Kp (Pn p l) H4 Ha := fun fa' ln' wa' e1 e2 e3 e4 e5 e6 =>
        ⟨fa', ln', by rw [e1], ⟨wa', e2.up kpa, fun ws o z => absurd z (e3 ws o)⟩, e4, fun u hu => by rw [e5] at hu; rw [List.mem_singleton.mp hu]; exact hgt, .inr ⟨e6, rfl⟩, hPa.mono (by omega), kk⟩
      show ∃ fa' ln', _
      rcases j with _ | _ | _ | j
      · exact done q1 (.tak t) q1 (Option.some.inj hv).symm b1 (fun _ _ => Ln.noConfusion) trivial rfl rfl
      · exact done q2 (.rst 4 t) q1 (Option.some.inj hv).symm b2 (fun _ _ => Ln.noConfusion) ⟨by decide, by decide⟩ rfl rfl
      · exact done q3 (.cap 5 t) q1 (Option.some.inj hv).symm b3 (fun _ _ => Ln.noConfusion) ⟨by decide, by decide⟩ rfl rfl
      · exact nomatch hv
    | cap v t =>
      have h5 : H4 la = some (.tup [.str Wd.cap.str, .int v, nmV R.nm t]) := h24'
      have hgt : GoOk R.ws i t := hgl t (List.mem_singleton.mpr rfl)
      repeat walk_at "s"
      intro q H5 n5
      have h6 := n5.up h5
      repeat walk_at "s"
      intro q1 H6 n6
      have h7 := n6.up h6
      repeat walk_at "s"
      intro q2 H7 n7
      have h8 := n7.up h7
      repeat walk_at "s"
      intro q3 H8 n8
      repeat walk_at "s"
      intro ar H9 n9
      have hP9 : Pen H9 p l (B + 41) := ((((hP4.new n5).new n6).new n7).new n8).new n9 |>.mono (by omega)
      have k9 : Kp (Pn p l) H4 H9 := ((((n5.kp.new n6).new n7).new n8).new n9)
      have b1 : At (Pn p l) H9 q1 (.tup [.str "take", nmV R.nm t]) := ((hP4.new n5).atN n6).up (((n7.kp.new n8).new n9))
      have b2 : At (Pn p l) H9 q2 (.tup [.str "rest", .int 4, nmV R.nm t]) := (((hP4.new n5).new n6).atN n7).up (n8.kp.new n9)
      have b3 : At (Pn p l) H9 q3 (.tup [.str "cap", .int 5, nmV R.nm t]) := ((((hP4.new n5).new n6).new n7).atN n8).up n9.kp
      have b9 : At (Pn p l) H9 ar (.lst [.ref q1, .ref q2, .ref q3]) := (((((hP4.new n5).new n6).new n7).new n8)).atN n9
      refine ⟨p, l, B + 41, ar, _, rfl, hP9, b9, Nat.zero_lt_succ _, Nat.le_of_ble_eq_true rfl, by omega, fun j vv Ha hv hPa kpa => ?_⟩
      have kk := k9.trans kpa
      have done : ∀ (fa' : Addr) (ln' : Ln) (wa' : Addr), vv = .ref fa' → At (Pn p l) H9 fa' (.tup (ln'.row (nmV R.nm) wa')) → (∀ ws o, ln' ≠ .cas ws o) → ln'.par → ln'.tg = [t] → ln'.wd.look = true → ∃ fa' ln', ((((([some (V.ref p), some (V.ref a), none, none, none, none, none, none].set 2 (some (V.ref an))).set 3 (some (V.ref aw))).set 4 (some (V.int i))).set 5 (some (V.str n))).set 6 (some (V.ref la))).set 7 (some vv) = ((((([some (V.ref p), some (V.ref a), none, none, none, none, none, none].set 2 (some (V.ref an))).set 3 (some (V.ref aw))).set 4 (some (V.int i))).set 5 (some (V.str n))).set 6 (some (V.ref la))).set 7 (some (V.ref fa')) ∧
        LnAt (Pn p l) Ha (nmV R.nm) false fa' ln' ∧ ln'.par ∧ (∀ t ∈ ln'.tg, GoOk R.ws i t) ∧ (ln'.wd = (Ln.cap v t).wd ∨ (ln'.wd.look = true ∧ (Ln.cap v t).wd.look = true)) ∧ Pen Ha p l (B + 50) ∧ Kp (Pn p l) H4 Ha := fun fa' ln' wa' e1 e2 e3 e4 e5 e6 =>
        ⟨fa', ln', by rw [e1], ⟨wa', e2.up kpa, fun ws o z => absurd z (e3 ws o)⟩, e4, fun u hu => by rw [e5] at hu; rw [List.mem_singleton.mp hu]; exact hgt, .inr ⟨e6, rfl⟩, hPa.mono (by omega), kk⟩
      show ∃ fa' ln', _
      rcases j with _ | _ | _ | j
      · exact done q1 (.tak t) q1 (Option.some.inj hv).symm b1 (fun _ _ => Ln.noConfusion) trivial rfl rfl
      · exact done q2 (.rst 4 t) q1 (Option.some.inj hv).symm b2 (fun _ _ => Ln.noConfusion) ⟨by decide, by decide⟩ rfl rfl
      · exact done q3 (.cap 5 t) q1 (Option.some.inj hv).symm b3 (fun _ _ => Ln.noConfusion) ⟨by decide, by decide⟩ rfl rfl
      · exact nomatch hv
  rintro σ' H5 ⟨fa', ln', rfl, hf5, hp5, hg5, hw5, hP5, kp5⟩
  have kp05 := ((kp2.trans kp3).trans kp4).trans kp5
  have ha5 := ha.up kp05
  have ha5' := ha5.h
  have hle' : (xs.map V.ref).length ≤ 8 := by rw [List.length_map]; omega
  have hil : i ≤ (xs.map V.ref).length := by rw [List.length_map]; omega
  repeat walk_at "s"
  refine x_sl ?_
  repeat walk_at "s"
  refine x_npart (x_part ?_)
  repeat walk_at "s"
  refine ⟨_, rfl, ?_⟩
  refine x_slL ha5' fun q1 H6 n6 => ?_
  have ha6 := n6.up ha5'
  rw [cut_none _ _ hil] at n6
  have c6 := n6.at_
  repeat walk_at "s"
  intro q2 H7 n7
  have c7 := n7.up c6
  have ha7 := n7.up ha6
  repeat walk_at "s"
  intro q3 H8 n8
  have c8 := n8.up c7
  have ha8 := n8.up ha7
  have d8 := n8.at_
  refine x_cat c8 d8 (by rw [List.length_take]; show min i _ + 1 ≤ _; exact Nat.le_trans (Nat.add_le_add_right (Nat.min_le_left ..) _) (by rw [sizeLine_eq]; omega)) fun q4 H9 n9 => ?_
  have ha9 := n9.up ha8
  have c9 := n9.at_
  refine x_sl ?_
  repeat walk_at "s"
  refine x_part ?_
  repeat walk_at "s"
  refine ⟨_, rfl, x_npart ?_⟩
  refine x_slL ha9 fun q5 Ha na => ?_
  have ca := na.up c9
  have da := na.at_
  have e1 : ((i : Int) + 1) = ((i + 1 : Nat) : Int) := rfl
  rw [e1, cut_from _ _ (by rw [List.length_map]; omega)] at da
  refine x_cat ca da (by rw [List.length_append, List.length_take, List.length_drop, sizeLine_eq]; show min i _ + 1 + _ ≤ _; have := Nat.min_le_left i (xs.map V.ref).length; omega) fun q6 Hb nb => ?_
  have eq6 : (List.take i (xs.map V.ref) ++ [V.ref q2]) ++ List.drop (i + 1) (xs.map V.ref) = (xs.set i q2).map V.ref := by
    rw [take_drop (map_get hx), List.map_set]
  have k7 : Kp (Pn p l) H5 H6 := n6.kp
  have kb : Kp (Pn p l) H7 Hb := (((n8.kp.new n9).new na).new nb)
  have k5b : Kp (Pn p l) H5 Hb := ((k7.new n7).trans kb)
  have hP6 := hP5.new n6
  have h2b : At (Pn p l) Hb q2 (.tup [.str n, .ref fa']) := (hP6.atN n7).up kb
  have hPa := (((hP6.new n7).new n8).new n9).new na
  refine k q6 (xs.set i q2) ⟨R.nm, R.ln.set i ln'⟩ Hb (wf.set hl hp5 hg5 hw5) ?_ ?_ ((hPa.new nb).mono (by omega)) (kp05.trans k5b)
  · exact LnsAt.set (hxs.up (kp05.trans k5b)) hi hn h2b (hf5.up k5b)
  · have h := hPa.atN nb
    rw [eq6] at h
    exact h
end
end
end K21
end

section
set_option maxRecDepth 100000
set_option maxHeartbeats 4000000
namespace K21
open PySem PySem.Spec PyProof.Rows L2
noncomputable section
local macro_rules | `(tactic| walk_at "hp") => `(tactic| first
  | assumption
  | ((with_reducible refine' At.h ?q); (case q => assumption))
  | ((with_reducible refine' New.at_ ?q); (case q => assumption))
  | ((with_reducible refine' Chg.at_ ?q); (case q => assumption))
  | ((with_reducible refine' New.up ?n ?q); (case n => assumption); (case q => walk_at "hp"))
  | ((with_reducible refine' Same.up ?n ?q); (case n => assumption); (case q => walk_at "hp")))
local macro_rules | `(tactic| walk_at "sz") => `(tactic| first | exact Nat.le_of_ble_eq_true rfl | assumption | omega)
local macro_rules | `(tactic| walk_at "i") => `(tactic| first
  | with_reducible refine' x_I0 ?_
  | ((with_reducible refine' x_I ?c ?_); (case c => first | assumption | (show (_ : Int) ≠ 0; omega) | exact .inr ⟨by decide, by decide⟩ | exact .inl ⟨by decide, by decide⟩ | (refine ⟨?_, ?_⟩ <;> first | decide | omega)))
  | with_reducible refine' x_eqI ?_
  | with_reducible refine' x_neI ?_
  | with_reducible refine' x_eqS ?_
  | with_reducible refine' x_neS ?_
  | with_reducible refine' x_isN ?_
  | with_reducible refine' x_notN ?_
  | with_reducible refine' x_U ?_
  | with_reducible refine' x_int ?_
  | with_reducible refine' x_intB ?_
  | with_reducible refine' x_min2 ?_
  | with_reducible refine' x_max2 ?_
  | ((with_reducible refine' x_ixLh ?h ?v ?_); (case h => walk_at "hp"); (case v => first | exact rfl | assumption))
  | ((with_reducible refine' x_ixTh ?h ?v ?_); (case h => walk_at "hp"); (case v => first | exact rfl | assumption))
  | ((with_reducible refine' x_lenL ?h ?_); (case h => walk_at "hp"))
  | ((with_reducible refine' x_lenT ?h ?_); (case h => walk_at "hp"))
  | ((with_reducible refine' x_gtuph ?h ?l ?_); (case h => walk_at "hp"); (case l => exact rfl))
  | ((with_reducible refine' x_BmAh ?h ?_); (case h => walk_at "hp"))
  | ((with_reducible refine' x_BmA0h ?h ?_); (case h => walk_at "hp"))
  | ((with_reducible refine' x_inStr ?h ?_); (case h => walk_at "hp"))
  | ((with_reducible refine' x_ninStr ?h ?_); (case h => walk_at "hp"))
  | ((with_reducible refine' x_inInt ?h ?_); (case h => walk_at "hp"))
  | ((with_reducible refine' x_ninInt ?h ?_); (case h => walk_at "hp"))
  | ((with_reducible refine' x_inL ?h ?f ?g ?_); (case h => walk_at "hp"); (case f => exact rfl); (case g => first | exact rfl | assumption))
  | ((with_reducible refine' x_inT ?h ?f ?g ?_); (case h => walk_at "hp"); (case f => exact rfl); (case g => first | exact rfl | assumption))
  | ((with_reducible refine' x_notInL ?h ?f ?g ?_); (case h => walk_at "hp"); (case f => exact rfl); (case g => first | exact rfl | assumption))
  | ((with_reducible refine' x_setL ?h ?j ?_); (case h => walk_at "hp"); (case j => first | exact rfl | assumption))
  | ((with_reducible refine' x_append ?h ?l ?_); (case h => walk_at "hp"); (case l => walk_at "sz"))
  | ((with_reducible refine' x_neNil ?h ?g ?_); (case h => walk_at "hp"); (case g => walk_at "hp"))
  | ((with_reducible refine' x_eqNil ?h ?g ?_); (case h => walk_at "hp"); (case g => walk_at "hp"))
  | ((with_reducible refine' x_DgA ?h ?v ?_); (case h => walk_at "hp"); (case v => first | exact stK_at _ _ _ | exact bkK_first _ _ | exact bkK_lines _ _ | exact stK_kept _ _ _ | exact stK_left _ _ _ | assumption))
  | ((with_reducible refine' x_DspS ?h ?_); (case h => walk_at "hp"))
  | ((with_reducible refine' x_AlT ?h ?_); (case h => walk_at "sz"))
  | ((with_reducible refine' x_AlL ?h ?_); (case h => walk_at "sz"))
  | ((with_reducible refine' x_Rg1 ?a ?b ?_); (case a => omega); (case b => omega))
  | ((with_reducible refine' x_Rg2 ?a ?b ?c ?d ?_); (case a => omega); (case b => omega); (case c => omega); (case d => omega))
  | with_reducible refine' x_AlO ?_)
local macro_rules | `(tactic| walk_at "s") => `(tactic| first
  | with_reducible refine' x_seq ?_
  | with_reducible refine' x_asg ?_
  | with_reducible refine' x_gname ?_
  | ((with_reducible refine' x_var ?h ?_); (case h => exact rfl))
  | with_reducible refine' x_c ?_
  | with_reducible refine' x_op ?_
  | with_reducible refine' x_cons ?_
  | with_reducible refine' x_nil ?_
  | with_reducible refine' x_cb ?_
  | with_reducible refine' x_ret ?_
  | with_reducible refine' x_ifS ?_
  | with_reducible refine' x_test ?_
  | with_reducible refine' x_B ?_
  | with_reducible refine' x_bl ?_
  | with_reducible refine' x_if ?_
  | with_reducible refine' x_call ?_
  | with_reducible refine' x_tup ?_
  | with_reducible refine' x_lst ?_
  | with_reducible refine' x_gcons ?_
  | with_reducible refine' x_gnil ?_
  | with_reducible refine' x_gsub ?_
  | with_reducible refine' x_next ?_
  | with_reducible refine' x_drop ?_
  | with_reducible refine' x_and ?_
  | with_reducible refine' x_or ?_
  | with_reducible refine' x_not ?_
  | with_reducible refine' x_andV ?_
  | with_reducible refine' x_orV ?_
  | with_reducible refine' x_un ?_
  | with_reducible refine' x_chain ?_
  | with_reducible refine' x_sfld ?_
  | with_reducible refine' x_par ?_
  | with_reducible refine' x_par2 ?_
  | with_reducible refine' x_par3 ?_
  | with_reducible refine' x_par33 ?_
  | with_reducible refine' x_fld ?_
  | with_reducible refine' x_meth ?_
  | with_reducible refine' x_bm ?_
  | with_reducible refine' x_bm0 ?_
  | with_reducible refine' x_forL ?_
  | with_reducible refine' x_forT ?_
  | with_reducible refine' x_forR1 ?_
  | with_reducible refine' x_forR2 ?_
  | with_reducible refine' x_lcL ?_
  | with_reducible refine' x_lcT ?_
  | with_reducible refine' x_lcR1 ?_
  | with_reducible refine' x_lcR2 ?_
  | with_reducible refine' x_dnew ?_
  | with_reducible refine' x_retN ?_
  | with_reducible refine' x_ff ?_
  | with_reducible refine' x_lrg1 ?_
  | with_reducible refine' x_disp ?_
  | with_reducible refine' x_pnil ?_
  | with_reducible refine' x_pcons ?_
  | with_reducible refine' x_dget ?_
  | with_reducible refine' x_dput ?_
  | with_reducible refine' x_dnewN ?_
  | with_reducible refine' x_nin ?_
  | with_reducible refine' x_nget ?_
  | with_reducible refine' x_nput ?_
  | ((with_reducible refine' x_yes ?e ?_); (case e => first | decide +kernel | exact not_int_non _ | exact not_str_non _))
  | ((with_reducible refine' x_no ?e ?_); (case e => first | decide +kernel | exact int_non _ | exact str_non _))
  | with_reducible refine' x_lrg2 ?_
  | with_reducible refine' x_tt ?_
  | with_reducible refine' x_break ?_
  | walk_at "i")

def Nsc_law_settle : List Str := ["_law_book_here", "_law_name", "_law_kept", "_law_is_cut", "_law_k", "_law_line_here", "_law_word_here", "_law_length"]
theorem sc_law_settle : FnScope Nsc_law_settle ["_law_book_here", "_law_name", "_law_kept"] (defScope (topS 63)) := ⟨rfl, rfl, rfl, by decide +kernel, rfl, by decide +kernel, by decide +kernel⟩
/-- what is left to settle -/
def HH (L : List Ln) (z : St × Bool) (n i : Nat) (k : Option Int) (c : Bool) : Prop := (∃ s d, settleO L n i k = some (s, d) ∧ z = (s, c || d)) ∨ (L[i]? = some .rfs ∧ z = (gone, c))
theorem HH.stop {L : List Ln} {z : St × Bool} {n i : Nat} {k : Option Int} {c : Bool} {l : Ln} {s : St} (h : HH L z (n + 1) i k c) (hl : L[i]? = some l) (e : silL l i k = .stop s) (hn : l ≠ .rfs) : z = (s, c) := by
  rcases h with ⟨s', d, h1, h2⟩ | ⟨h1, _⟩
  · rw [settleO_stop hl e] at h1
    cases h1
    rw [h2, Bool.or_false]
  · rw [hl] at h1
    exact absurd (Option.some.inj h1) hn
theorem HH.go {L : List Ln} {z : St × Bool} {n i j : Nat} {k k' : Option Int} {c c' : Bool} {l : Ln} (h : HH L z (n + 1) i k c) (hl : L[i]? = some l) (e : silL l i k = .go j k' c') : HH L z n j k' (c || c') := by
  rcases h with ⟨s', d, h1, h2⟩ | ⟨h1, _⟩
  · rw [settleO_go hl e] at h1
    obtain ⟨r, hr, e2⟩ := Option.map_eq_some_iff.mp h1
    cases e2
    exact .inl ⟨r.1, r.2, hr, by rw [h2, Bool.or_assoc]⟩
  · rw [hl] at h1
    cases Option.some.inj h1
    exact nomatch e
theorem HH.rfs {L : List Ln} {z : St × Bool} {n i : Nat} {k : Option Int} {c : Bool} (h : HH L z (n + 1) i k c) (hl : L[i]? = some .rfs) : z = (gone, c) := by
  rcases h with ⟨s', d, h1, h2⟩ | ⟨_, h1⟩
  · rw [settleO_stop (s := gone) hl rfl] at h1
    cases h1
    rw [h2, Bool.or_false]
  · exact h1
section
variable {P : Program} {w : World} {K : PySem.W.Frag} {mg : Str → Option Value} {base : Heap}
/-- settling in the law's walk -/
def spLset : Sp := fun vs H Q _ => ∃ (bk : Addr) (R : Rd) (i : Nat) (k : Option Int), vs = [.ref bk, .str (nmS R i), kO k] ∧ BookAt H bk R ∧ WF R ∧ i < R.ln.length ∧ KOk k ∧
  ∀ (a sd : Addr) (H' : Hp), Same H H' → H' sd = some (stO R (settleS R.ln i k).1) → H' a = some (.tup [.ref sd, .bl (settleS R.ln i k).2]) → Q (.ref a) H'
theorem ok_lset {f : Addr} {fd : FuncData} (F : L2.Fun K "_law_settle" "_law_settle" (topS 63) f fd) (m : mg "_law_settle" = some (.ref f)) (b : Binds K fd ["_law_book_here", "_law_name", "_law_kept"] []) (G : Gm K mg) : C8.Cal P w K mg base 1 "_law_settle" spLset [] := by
  refine calN F m b sc_law_settle (fun vs H Q E h => ?_) (fun cdv A outer s H vs Q E hr h => ?_)
  · obtain ⟨bk, R, i, k, rfl, _⟩ := h
    rfl
  obtain ⟨bk, R, i, k, rfl, hb, wf, hi, hk, q⟩ := h
  refine ⟨_, (pss_cons (ps_set (i := 3) sc_law_settle.nd rfl (Or.inl rfl) pe_bl) (pss_cons (ps_for PassesOwn.never rfl (pi_range1 rfl G.range (pa_cons pe_int pa_nil)) (pg_name (i := 4) sc_law_settle.nd rfl (Or.inl rfl)) (pss_cons (ps_set (i := 5) sc_law_settle.nd rfl (Or.inl rfl) (pe_dget (hu_of hr) (pe_dget (hu_of hr) (pv 0) pe_str (fun _ _ => rfl)) (pv 1) (fun _ _ => rfl))) (pss_cons (ps_set (i := 6) sc_law_settle.nd rfl (Or.inl rfl) (pe_ix ix_tup (pv 5) pe_int (fun _ _ => rfl))) (pss_one (ps_if (pt_cmpR op_eq (pv 6) pe_str (nomark _)) (pss_cons (ps_set (i := 7) sc_law_settle.nd rfl (Or.inl rfl) (pe_ifExp (pt_cmpR op_isN1 (pv 2) pe_non (nomark _)) (pe_un un_neg pe_int) (pe_op op_add (pv 2) (pe_ix ix_tup (pv 5) pe_int (fun _ _ => rfl))))) (pss_cons (ps_if (pt_cmpR op_lt (pv 7) pe_int (nomark _)) (pss_one (ps_ret (pe_tup (pa_cons (pe_disp (pps_cons pe_str pe_non (pps_cons pe_str pe_non (pps_cons pe_str pe_int pps_nil))) (by rfl) (by rfl) (fun z => by cases z) (by decide)) (pa_cons (pv 3) pa_nil))))) pss_nil) (pss_cons (ps_if (pt_cmpR op_gt (pv 7) pe_int (nomark _)) (pss_one (ps_ret (pe_tup (pa_cons (pe_disp (pps_cons pe_str (pv 1) (pps_cons pe_str pe_non (pps_cons pe_str (pv 7) pps_nil))) (by rfl) (by rfl) (fun z => by cases z) (by decide)) (pa_cons (pv 3) pa_nil))))) pss_nil) (pss_cons (ps_set (i := 1) sc_law_settle.nd rfl (Or.inl rfl) (pe_ix ix_tup (pv 5) pe_int (fun _ _ => rfl))) (pss_one (ps_set (i := 2) sc_law_settle.nd rfl (Or.inl rfl) pe_non)))))) (pss_one (ps_if (pt_cmpR op_eq (pv 6) pe_str (nomark _)) (pss_cons (ps_set (i := 1) sc_law_settle.nd rfl (Or.inl rfl) (pe_ix ix_tup (pv 5) pe_int (fun _ _ => rfl))) (pss_one (ps_set (i := 2) sc_law_settle.nd rfl (Or.inl rfl) (pe_ix ix_tup (pv 5) pe_int (fun _ _ => rfl))))) (pss_one (ps_if (pt_cmpR op_eq (pv 6) pe_str (nomark _)) (pss_one (ps_set (i := 1) sc_law_settle.nd rfl (Or.inl rfl) (pe_ifExp (PW.pt (pw_and (pt_cmpR op_notN1 (pv 2) pe_non (nomark _)) (pw_and1 (pt_cmpR op_le (pv 2) (pe_ix ix_tup (pv 5) pe_int (fun _ _ => rfl)) (nomark _))))) (pe_ix ix_tup (pv 5) pe_int (fun _ _ => rfl)) (pe_ix ix_tup (pv 5) pe_int (fun _ _ => rfl))))) (pss_one (ps_if (pt_cmpR op_eq (pv 6) pe_str (nomark _)) (pss_cons (ps_set (i := 1) sc_law_settle.nd rfl (Or.inl rfl) (pe_dget (hu_of hr) (pv 0) pe_str (fun _ _ => rfl))) (pss_cons (ps_set (i := 2) sc_law_settle.nd rfl (Or.inl rfl) pe_non) (pss_one (ps_set (i := 3) sc_law_settle.nd rfl (Or.inl rfl) pe_bl)))) (pss_one (ps_if (pt_cmpR op_ne (pv 6) pe_str (nomark _)) (pss_one (ps_ret (pe_tup (pa_cons (pe_disp (pps_cons pe_str (pv 1) (pps_cons pe_str (pv 2) (pps_cons pe_str (pe_ifExp (pt_cmpR op_eq (pv 6) pe_str (nomark _)) (pe_ix ix_tup (pv 5) pe_int (fun _ _ => rfl)) pe_int) pps_nil))) (by rfl) (by rfl) (fun z => by cases z) (by decide)) (pa_cons (pv 3) pa_nil))))) pss_nil))))))))))))) (pss_one (ps_ret (pe_tup (pa_cons (pe_disp (pps_cons pe_str pe_non (pps_cons pe_str pe_non (pps_cons pe_str pe_int pps_nil))) (by rfl) (by rfl) (fun z => by cases z) (by decide)) (pa_cons (pv 3) pa_nil))))))), ?_⟩
  rw [show L2.start Nsc_law_settle [.ref bk, .str (nmS R i), kO k] = [some (.ref bk), some (.str (nmS R i)), some (kO k), none, none, none, none, none] from rfl]; try simp only [cxK, cxK2, cxP, cxW, cxPn, cxWn]
  have all := (settle_all wf hi hk).1
  repeat walk_at "s"
  refine x_ForR (m := 30) (by omega) (fun j σ H' => ∃ (i' : Nat) (k' : Option Int) (c : Bool) (x4 x5 x6 x7 : Option V), σ = [some (.ref bk), some (.str (nmS R i')), some (kO k'), some (.bl c), x4, x5, x6, x7] ∧ Same H H' ∧
    HH R.ln (settleS R.ln i k) (30 - j) i' k' c) ?_ ?_ ?_
  · exact ⟨i, k, false, none, none, none, none, rfl, Same.refl _, .inl ⟨_, _, all, by rfl⟩⟩
  · rintro j σ H1 hj ⟨i', k', c, x4, x5, x6, x7, rfl, s1, hh⟩
    have hl : ∃ l, R.ln[i']? = some l := by
      rcases hh with ⟨s, d, h, _⟩ | ⟨h, _⟩
      · cases e : R.ln[i']? with
        | some l => exact ⟨l, rfl⟩
        | none =>
          obtain ⟨n, hn⟩ : ∃ n, 30 - j = n + 1 := ⟨29 - j, by omega⟩
          rw [hn] at h
          have h : (match R.ln[i']? with | none => none | some l => _) = some (s, d) := h
          rw [e] at h
          exact nomatch h
      · exact ⟨_, h⟩
    obtain ⟨l, hl⟩ := hl
    obtain ⟨ld, kvs, b1, b2, b3⟩ := hb.up s1
    obtain ⟨la, v1, wa, a1, _⟩ := b3 i' l hl
    have a1' := a1.h
    have n30 : 30 - j = (30 - (j + 1)) + 1 := by omega
    rw [n30] at hh
    have ret : ∀ s p H2 H3 a H4, settleS R.ln i k = (s, c) → New H1 H2 p (.dK []) → Chg H2 H3 p (stO R s) → New H3 H4 a (.tup [.ref p, .bl c]) → Q (.ref a) H4 := fun s p H2 H3 a H4 e n2 c3 n4 =>
      q a p H4 ((s1.trans (n2.chg c3).same).trans n4.same) (by rw [e]; exact n4.up c3.at_) (by rw [e]; exact n4.at_)
    have zz : (0 : Int) + (j : Int) = (j : Int) := Int.zero_add _
    cases l with
    | skp d t =>
      have h5 : H1 la = some (.tup [.str Wd.skp.str, .int d, .str (nmS R t)]) := a1'
      cases k' with
      | none =>
        rw [show kO none = V.non from rfl]
        repeat walk_at "s"
        intro p H2 n2
        repeat walk_at "s"
        intro H3 c3
        repeat walk_at "s"
        intro a H4 n4
        exact ret gone p H2 H3 a H4 (hh.stop hl rfl nofun) n2 c3 n4
      | some v =>
        rw [show kO (some v) = V.int v from rfl]
        repeat walk_at "s"
        refine x_ite (fun h1 => ?_) (fun h1 => ?_)
        · repeat walk_at "s"
          intro p H2 n2
          repeat walk_at "s"
          intro H3 c3
          repeat walk_at "s"
          intro a H4 n4
          exact ret gone p H2 H3 a H4 (hh.stop hl (if_pos h1) nofun) n2 c3 n4
        · repeat walk_at "s"
          refine x_ite (fun h2 => ?_) (fun h2 => ?_)
          · repeat walk_at "s"
            intro p H2 n2
            repeat walk_at "s"
            intro H3 c3
            repeat walk_at "s"
            intro a H4 n4
            exact ret ⟨some i', none, v + d⟩ p H2 H3 a H4 (hh.stop hl ((if_neg h1).trans (if_pos h2)) nofun) n2 c3 n4
          · repeat walk_at "s"
            refine ⟨t, none, c, _, _, _, _, rfl, s1, ?_⟩
            have := hh.go hl ((if_neg h1).trans (if_neg h2) : silL (.skp d t) i' (some v) = .go t none false)
            rw [Bool.or_false] at this
            exact this
    | set v t =>
      have h5 : H1 la = some (.tup [.str Wd.set.str, .int v, .str (nmS R t)]) := a1'
      repeat walk_at "s"
      refine ⟨t, some v, c, _, _, _, _, rfl, s1, ?_⟩
      have := hh.go hl (rfl : silL (.set v t) i' k' = .go t (some v) false)
      rw [Bool.or_false] at this
      exact this
    | upt v t u =>
      have h5 : H1 la = some (.tup [.str Wd.upt.str, .int v, .str (nmS R t), .str (nmS R u)]) := a1'
      have := hh.go hl (rfl : silL (.upt v t u) i' k' = .go (upTo v t u k') k' false)
      rw [Bool.or_false] at this
      cases k' with
      | none =>
        rw [show kO none = V.non from rfl]
        repeat walk_at "s"
        exact ⟨u, none, c, _, _, _, _, rfl, s1, this⟩
      | some y =>
        rw [show kO (some y) = V.int y from rfl]
        repeat walk_at "s"
        refine x_ite (fun h1 => ?_) (fun h1 => ?_)
        · repeat walk_at "s"
          have e : upTo v t u (some y) = t := if_pos h1
          rw [e] at this
          exact ⟨t, some y, c, _, _, _, _, rfl, s1, this⟩
        · repeat walk_at "s"
          have e : upTo v t u (some y) = u := if_neg h1
          rw [e] at this
          exact ⟨u, some y, c, _, _, _, _, rfl, s1, this⟩
    | cut =>
      have h5 : H1 la = some (.tup [.str Wd.cut.str]) := a1'
      repeat walk_at "s"
      refine ⟨0, none, true, _, _, _, _, rfl, s1, ?_⟩
      have := hh.go hl (rfl : silL .cut i' k' = .go 0 none true)
      rw [Bool.or_true] at this
      exact this
    | rfs =>
      have h5 : H1 la = some (.tup [.str Wd.rfs.str]) := a1'
      repeat walk_at "s"
      exact ⟨i', k', c, _, _, _, _, rfl, s1, .inr ⟨hl, hh.rfs hl⟩⟩
    | jmp v t =>
      have h5 : H1 la = some (.tup [.str Wd.jmp.str, .int v, .str (nmS R t)]) := a1'
      repeat walk_at "s"
      intro p H2 n2
      repeat walk_at "s"
      intro H3 c3
      repeat walk_at "s"
      intro a H4 n4
      exact ret ⟨some i', k', v⟩ p H2 H3 a H4 (hh.stop hl rfl nofun) n2 c3 n4
    | cas ws o =>
      have h5 : H1 la = some (.tup [.str Wd.cas.str, .ref wa, .str (nmS R o)]) := a1'
      repeat walk_at "s"
      intro p H2 n2
      repeat walk_at "s"
      intro H3 c3
      repeat walk_at "s"
      intro a H4 n4
      exact ret ⟨some i', k', 1⟩ p H2 H3 a H4 (hh.stop hl rfl nofun) n2 c3 n4
    | tak t =>
      have h5 : H1 la = some (.tup [.str Wd.tak.str, .str (nmS R t)]) := a1'
      repeat walk_at "s"
      intro p H2 n2
      repeat walk_at "s"
      intro H3 c3
      repeat walk_at "s"
      intro a H4 n4
      exact ret ⟨some i', k', 1⟩ p H2 H3 a H4 (hh.stop hl rfl nofun) n2 c3 n4
    | rst v t =>
      have h5 : H1 la = some (.tup [.str Wd.rst.str, .int v, .str (nmS R t)]) := a1'
      repeat walk_at "s"
      intro p H2 n2
      repeat walk_at "s"
      intro H3 c3
      repeat walk_at "s"
      intro a H4 n4
      exact ret ⟨some i', k', 1⟩ p H2 H3 a H4 (hh.stop hl rfl nofun) n2 c3 n4
    | cap v t =>
      have h5 : H1 la = some (.tup [.str Wd.cap.str, .int v, .str (nmS R t)]) := a1'
      repeat walk_at "s"
      intro p H2 n2
      repeat walk_at "s"
      intro H3 c3
      repeat walk_at "s"
      intro a H4 n4
      exact ret ⟨some i', k', 1⟩ p H2 H3 a H4 (hh.stop hl rfl nofun) n2 c3 n4
  · rintro σ H1 ⟨i', k', c, x4, x5, x6, x7, rfl, s1, hh⟩
    have e : settleS R.ln i k = (gone, c) := by
      rcases hh with ⟨s, d, h, _⟩ | ⟨_, h⟩
      · exact nomatch h
      · exact h
    repeat walk_at "s"
    intro p H2 n2
    repeat walk_at "s"
    intro H3 c3
    repeat walk_at "s"
    intro a H4 n4
    exact q a p H4 ((s1.trans (n2.chg c3).same).trans n4.same) (by rw [e]; exact n4.up c3.at_) (by rw [e]; exact n4.at_)
end
end
end K21
end

section
set_option maxRecDepth 100000
set_option maxHeartbeats 4000000
namespace K21
open PySem PySem.Spec PyProof.Rows L2
noncomputable section
local macro_rules | `(tactic| walk_at "hp") => `(tactic| first
  | assumption
  | ((with_reducible refine' At.h ?q); (case q => assumption))
  | ((with_reducible refine' New.at_ ?q); (case q => assumption))
  | ((with_reducible refine' Chg.at_ ?q); (case q => assumption))
  | ((with_reducible refine' New.up ?n ?q); (case n => assumption); (case q => walk_at "hp"))
  | ((with_reducible refine' Same.up ?n ?q); (case n => assumption); (case q => walk_at "hp")))
local macro_rules | `(tactic| walk_at "sz") => `(tactic| first | exact Nat.le_of_ble_eq_true rfl | assumption | omega)
local macro_rules | `(tactic| walk_at "i") => `(tactic| first
  | with_reducible refine' x_I0 ?_
  | ((with_reducible refine' x_I ?c ?_); (case c => first | assumption | (show (_ : Int) ≠ 0; omega) | exact .inr ⟨by decide, by decide⟩ | exact .inl ⟨by decide, by decide⟩ | (refine ⟨?_, ?_⟩ <;> first | decide | omega)))
  | with_reducible refine' x_eqI ?_
  | with_reducible refine' x_neI ?_
  | with_reducible refine' x_eqS ?_
  | with_reducible refine' x_neS ?_
  | with_reducible refine' x_isN ?_
  | with_reducible refine' x_notN ?_
  | with_reducible refine' x_U ?_
  | with_reducible refine' x_int ?_
  | with_reducible refine' x_intB ?_
  | with_reducible refine' x_min2 ?_
  | with_reducible refine' x_max2 ?_
  | ((with_reducible refine' x_ixLh ?h ?v ?_); (case h => walk_at "hp"); (case v => first | exact rfl | assumption))
  | ((with_reducible refine' x_ixTh ?h ?v ?_); (case h => walk_at "hp"); (case v => first | exact rfl | assumption))
  | ((with_reducible refine' x_lenL ?h ?_); (case h => walk_at "hp"))
  | ((with_reducible refine' x_lenT ?h ?_); (case h => walk_at "hp"))
  | ((with_reducible refine' x_gtuph ?h ?l ?_); (case h => walk_at "hp"); (case l => exact rfl))
  | ((with_reducible refine' x_BmAh ?h ?_); (case h => walk_at "hp"))
  | ((with_reducible refine' x_BmA0h ?h ?_); (case h => walk_at "hp"))
  | ((with_reducible refine' x_inStr ?h ?_); (case h => walk_at "hp"))
  | ((with_reducible refine' x_ninStr ?h ?_); (case h => walk_at "hp"))
  | ((with_reducible refine' x_inInt ?h ?_); (case h => walk_at "hp"))
  | ((with_reducible refine' x_ninInt ?h ?_); (case h => walk_at "hp"))
  | ((with_reducible refine' x_inL ?h ?f ?g ?_); (case h => walk_at "hp"); (case f => exact rfl); (case g => first | exact rfl | assumption))
  | ((with_reducible refine' x_inT ?h ?f ?g ?_); (case h => walk_at "hp"); (case f => exact rfl); (case g => first | exact rfl | assumption))
  | ((with_reducible refine' x_notInL ?h ?f ?g ?_); (case h => walk_at "hp"); (case f => exact rfl); (case g => first | exact rfl | assumption))
  | ((with_reducible refine' x_setL ?h ?j ?_); (case h => walk_at "hp"); (case j => first | exact rfl | assumption))
  | ((with_reducible refine' x_append ?h ?l ?_); (case h => walk_at "hp"); (case l => walk_at "sz"))
  | ((with_reducible refine' x_neNil ?h ?g ?_); (case h => walk_at "hp"); (case g => walk_at "hp"))
  | ((with_reducible refine' x_eqNil ?h ?g ?_); (case h => walk_at "hp"); (case g => walk_at "hp"))
  | ((with_reducible refine' x_DgA ?h ?v ?_); (case h => walk_at "hp"); (case v => first | exact stK_at _ _ _ | exact bkK_first _ _ | exact bkK_lines _ _ | exact stK_kept _ _ _ | exact stK_left _ _ _ | assumption))
  | ((with_reducible refine' x_DspS ?h ?_); (case h => walk_at "hp"))
  | ((with_reducible refine' x_AlT ?h ?_); (case h => walk_at "sz"))
  | ((with_reducible refine' x_AlL ?h ?_); (case h => walk_at "sz"))
  | ((with_reducible refine' x_Rg1 ?a ?b ?_); (case a => omega); (case b => omega))
  | ((with_reducible refine' x_Rg2 ?a ?b ?c ?d ?_); (case a => omega); (case b => omega); (case c => omega); (case d => omega))
  | with_reducible refine' x_AlO ?_)
local macro_rules | `(tactic| walk_at "s") => `(tactic| first
  | with_reducible refine' x_seq ?_
  | with_reducible refine' x_asg ?_
  | with_reducible refine' x_gname ?_
  | ((with_reducible refine' x_var ?h ?_); (case h => exact rfl))
  | with_reducible refine' x_c ?_
  | with_reducible refine' x_op ?_
  | with_reducible refine' x_cons ?_
  | with_reducible refine' x_nil ?_
  | with_reducible refine' x_cb ?_
  | with_reducible refine' x_ret ?_
  | with_reducible refine' x_ifS ?_
  | with_reducible refine' x_test ?_
  | with_reducible refine' x_B ?_
  | with_reducible refine' x_bl ?_
  | with_reducible refine' x_if ?_
  | with_reducible refine' x_call ?_
  | with_reducible refine' x_tup ?_
  | with_reducible refine' x_lst ?_
  | with_reducible refine' x_gcons ?_
  | with_reducible refine' x_gnil ?_
  | with_reducible refine' x_gsub ?_
  | with_reducible refine' x_next ?_
  | with_reducible refine' x_drop ?_
  | with_reducible refine' x_and ?_
  | with_reducible refine' x_or ?_
  | with_reducible refine' x_not ?_
  | with_reducible refine' x_andV ?_
  | with_reducible refine' x_orV ?_
  | with_reducible refine' x_un ?_
  | with_reducible refine' x_chain ?_
  | with_reducible refine' x_sfld ?_
  | with_reducible refine' x_par ?_
  | with_reducible refine' x_par2 ?_
  | with_reducible refine' x_par3 ?_
  | with_reducible refine' x_par33 ?_
  | with_reducible refine' x_fld ?_
  | with_reducible refine' x_meth ?_
  | with_reducible refine' x_bm ?_
  | with_reducible refine' x_bm0 ?_
  | with_reducible refine' x_forL ?_
  | with_reducible refine' x_forT ?_
  | with_reducible refine' x_forR1 ?_
  | with_reducible refine' x_forR2 ?_
  | with_reducible refine' x_lcL ?_
  | with_reducible refine' x_lcT ?_
  | with_reducible refine' x_lcR1 ?_
  | with_reducible refine' x_lcR2 ?_
  | with_reducible refine' x_dnew ?_
  | with_reducible refine' x_retN ?_
  | with_reducible refine' x_ff ?_
  | with_reducible refine' x_lrg1 ?_
  | with_reducible refine' x_disp ?_
  | with_reducible refine' x_pnil ?_
  | with_reducible refine' x_pcons ?_
  | with_reducible refine' x_dget ?_
  | with_reducible refine' x_dput ?_
  | with_reducible refine' x_dnewN ?_
  | with_reducible refine' x_nin ?_
  | with_reducible refine' x_nget ?_
  | with_reducible refine' x_nput ?_
  | ((with_reducible refine' x_yes ?e ?_); (case e => first | decide +kernel | exact not_int_non _ | exact not_str_non _))
  | ((with_reducible refine' x_no ?e ?_); (case e => first | decide +kernel | exact int_non _ | exact str_non _))
  | with_reducible refine' x_lrg2 ?_
  | with_reducible refine' x_tt ?_
  | with_reducible refine' x_break ?_
  | walk_at "i")

def Nsc_law_step : List Str := ["_law_book_here", "_law_state", "_law_cell", "_law_line_here", "_law_kept", "_law_goal_here", "_law_value", "_law_name"]
theorem sc_law_step : FnScope Nsc_law_step ["_law_book_here", "_law_state", "_law_cell"] (defScope (topS 64)) := ⟨rfl, rfl, rfl, by decide +kernel, rfl, by decide +kernel, by decide +kernel⟩
theorem ways_pick (cell : Int) (o : Nat) (F : Nat → V) : ∀ ws : List (Int × Nat), (((ws.filter fun x => decide (x.1 = cell)).map fun x => F x.2) ++ [F o])[0]? = some (F (wayIn cell o ws))
  | [] => rfl
  | p :: r => by
    show _ = some (F (if p.1 = cell then p.2 else wayIn cell o r))
    rw [List.filter_cons]
    by_cases h : p.1 = cell
    · rw [if_pos (decide_eq_true h), if_pos h] <;> rfl
    · rw [if_neg (by rw [decide_eq_false h]; decide), if_neg h]
      exact ways_pick cell o F r
theorem gv_filter {α : Type} (l : List α) (d : α) (q : α → Bool) (F : α → V) : gv l.length (fun i => q (l.getD i d)) (fun i => F (l.getD i d)) = (l.filter q).map F := by
  have e : l = (List.range l.length).map fun i => l.getD i d := by
    have := range_map l d id
    rw [List.map_id] at this
    exact this.symm
  conv => rhs; rw [e, List.filter_map, List.map_map]
  rfl
section
variable {P : Program} {w : World} {K : PySem.W.Frag} {mg : Str → Option Value} {base : Heap}
/-- a step of the law's walk -/
def spLstep : Sp := fun vs H Q _ => ∃ (bk st : Addr) (R : Rd) (s : St) (cell : Int), vs = [.ref bk, .ref st, .int cell] ∧ BookAt H bk R ∧ WF R ∧ H st = some (stO R s) ∧ Live R.ln s ∧ 0 ≤ cell ∧ cell ≤ 6 ∧
  ∀ (a sd : Addr) (H' : Hp), Same H H' → H' sd = some (stO R (stepS R.ln cell s).1) → H' a = some (.tup [.ref sd, .bl (stepS R.ln cell s).2]) → Q (.ref a) H'
theorem ok_lstep {f : Addr} {fd : FuncData} (F : L2.Fun K "_law_step" "_law_step" (topS 64) f fd) (m : mg "_law_step" = some (.ref f)) (b : Binds K fd ["_law_book_here", "_law_state", "_law_cell"] []) (G : Gm K mg) (c__law_settle : C8.Cal P w K mg base 1 "_law_settle" spLset []) : C8.Cal P w K mg base 2 "_law_step" spLstep [] := by
  refine calN F m b sc_law_step (fun vs H Q E h => ?_) (fun cdv A outer s H vs Q E hr h => ?_)
  · obtain ⟨bk, st, R, s, cell, rfl, _⟩ := h
    rfl
  obtain ⟨bk, st, R, s, cell, rfl, hb, wf, hst, ⟨i, l, h1, hl, hin⟩, c0, c1, q⟩ := h
  refine ⟨_, (pss_cons (ps_set (i := 3) sc_law_step.nd rfl (Or.inl rfl) (pe_dget (hu_of hr) (pe_dget (hu_of hr) (pv 0) pe_str (fun _ _ => rfl)) (pe_dget (hu_of hr) (pv 1) pe_str (fun _ _ => rfl)) (fun _ _ => rfl))) (pss_cons (ps_if (pt_cmpR op_gt (pe_dget (hu_of hr) (pv 1) pe_str (fun _ _ => rfl)) pe_int (nomark _)) (pss_one (ps_ret (pe_tup (pa_cons (pe_disp (pps_cons pe_str (pe_dget (hu_of hr) (pv 1) pe_str (fun _ _ => rfl)) (pps_cons pe_str (pe_dget (hu_of hr) (pv 1) pe_str (fun _ _ => rfl)) (pps_cons pe_str (pe_op op_sub (pe_dget (hu_of hr) (pv 1) pe_str (fun _ _ => rfl)) pe_int) pps_nil))) (by rfl) (by rfl) (fun z => by cases z) (by decide)) (pa_cons pe_bl pa_nil))))) pss_nil) (pss_cons (ps_set (i := 4) sc_law_step.nd rfl (Or.inl rfl) (pe_dget (hu_of hr) (pv 1) pe_str (fun _ _ => rfl))) (pss_cons (ps_set (i := 5) sc_law_step.nd rfl (Or.inl rfl) (pe_ix ix_tup (pv 3) (pe_un un_neg pe_int) (fun _ _ => rfl))) (pss_cons (ps_if (pt_cmpR op_eq (pe_ix ix_tup (pv 3) pe_int (fun _ _ => rfl)) pe_str (nomark _)) (pss_one (ps_set (i := 4) sc_law_step.nd rfl (Or.inl rfl) (pv 2))) (pss_one (ps_if (pt_cmpR op_eq (pe_ix ix_tup (pv 3) pe_int (fun _ _ => rfl)) pe_str (nomark _)) (pss_one (ps_set (i := 4) sc_law_step.nd rfl (Or.inl rfl) (pe_op op_modN (pe_callTy k_int (by rfl) G.int (by decide +kernel) (pa_cons (pv 2) pa_nil)) (pe_ix ix_tup (pv 3) pe_int (fun _ _ => rfl))))) (pss_one (ps_if (pt_cmpR op_eq (pe_ix ix_tup (pv 3) pe_int (fun _ _ => rfl)) pe_str (nomark _)) (pss_one (ps_set (i := 4) sc_law_step.nd rfl (Or.inl rfl) (pe_callB (k_min2 rfl) (by rfl) G.min (by decide +kernel) (pa_cons (pv 2) (pa_cons (pe_ix ix_tup (pv 3) pe_int (fun _ _ => rfl)) pa_nil))))) (pss_one (ps_if (pt_cmpR op_eq (pe_ix ix_tup (pv 3) pe_int (fun _ _ => rfl)) pe_str (nomark _)) (pss_one (ps_set (i := 5) sc_law_step.nd rfl (Or.inl rfl) (pe_ix ix_list (pe_op k_cat (pe_lc (own := [("_law_value", 6), ("_law_name", 7)]) rfl sc_law_step.nd (pi_list (pe_ix ix_tup (pv 3) pe_int (fun _ _ => rfl))) (blkOk_by (own := [("_law_value", 6), ("_law_name", 7)]) (N := Nsc_law_step) (sc := defScope (topS 64)) (by decide +kernel)) (fun _ _ _ _ _ => (b_gtup (K := K) (n := 2) rfl rfl (pgs_cons (pg_name (i := 6) sc_law_step.nd rfl (Or.inl rfl)) (pgs_cons (pg_name (i := 7) sc_law_step.nd rfl (Or.inl rfl)) pgs_nil)))) (fun _ _ _ _ _ => pts_one (pt_cmpR op_eq (pv 6) (pv 2) (nomark _))) (fun _ _ _ _ _ => (pv 7))) (pe_lst (pa_cons (pv 5) pa_nil))) pe_int (fun _ _ => rfl)))) pss_nil))))))) (pss_one (ps_ret (C8.pe_c c__law_settle hr (by decide) rfl (pa_cons (pv 0) (pa_cons (pv 5) (pa_cons (pv 4) pa_nil))))))))))), ?_⟩
  rw [show L2.start Nsc_law_step [.ref bk, .ref st, .int cell] = [some (.ref bk), some (.ref st), some (.int cell), none, none, none, none, none] from rfl]; try simp only [cxK, cxK2, cxP, cxW, cxPn, cxWn]
  obtain ⟨_, k, left⟩ := s
  cases h1
  have hst : H st = some (.dK (stK (.str (nmS R i)) (kO k) (.int left))) := hst
  have hin : StIn l k left := hin
  have e0 : stepS R.ln cell ⟨some i, k, left⟩ = stepL R.ln l i ⟨some i, k, left⟩ cell := stepS_of rfl hl
  have hw := wayTo_ok wf (cell := cell) hl hin
  have hk := keptBy_ok wf (cell := cell) hl hin ⟨c0, c1⟩
  obtain ⟨ld, kvs, b1, b2, b3⟩ := id hb
  obtain ⟨la, v1, wa, a1, a2⟩ := b3 i l hl
  have a1' := a1.h
  repeat walk_at "s"
  refine x_ite (fun g => ?_) (fun g => ?_)
  · repeat walk_at "s"
    intro p H2 n2
    have hst2 := n2.up hst
    repeat walk_at "s"
    intro H3 c3
    repeat walk_at "s"
    intro a H4 n4
    have e : stepS R.ln cell ⟨some i, k, left⟩ = (⟨some i, k, left - 1⟩, false) := e0.trans (if_pos g)
    refine q a p H4 ((n2.chg c3).same.trans n4.same) ?_ ?_
    · rw [e]; exact n4.up c3.at_
    · rw [e]; exact n4.at_
  have e : stepS R.ln cell ⟨some i, k, left⟩ = settleS R.ln (wayTo l cell) (keptBy l k cell) := e0.trans (if_neg g)
  rw [e] at q
  have fin : ∀ H', Same H H' → spLset [.ref bk, .str (nmS R (wayTo l cell)), kO (keptBy l k cell)] H' Q E := fun H' s1 =>
    ⟨bk, R, wayTo l cell, keptBy l k cell, rfl, hb.up s1, wf, hw, hk, fun a sd H2 s2 => q a sd H2 (s1.trans s2)⟩
  cases l with
  | tak t =>
    have h5 : H la = some (.tup [.str Wd.tak.str, .str (nmS R t)]) := a1'
    repeat walk_at "s"
    exact fin H (Same.refl _)
  | rst v t =>
    have h5 : H la = some (.tup [.str Wd.rst.str, .int v, .str (nmS R t)]) := a1'
    have hp : 2 ≤ v ∧ v ≤ 4 := wf.par i _ hl
    repeat walk_at "s"
    rw [Int.fmod_eq_emod_of_nonneg cell (by omega)]
    exact fin H (Same.refl _)
  | cap v t =>
    have h5 : H la = some (.tup [.str Wd.cap.str, .int v, .str (nmS R t)]) := a1'
    repeat walk_at "s"
    rw [show (if v < cell then v else cell) = min cell v by split <;> omega]
    exact fin H (Same.refl _)
  | cas ws o =>
    have h5 : H la = some (.tup [.str Wd.cas.str, .ref wa, .str (nmS R o)]) := a1'
    obtain ⟨rs, g1, g2, g3⟩ := a2 ws o rfl
    have hws : ws.length ≤ 6 := (wf.par i _ hl).2.2
    have g1' : H wa = some (.lst (rs.map V.ref)) := g1.h
    repeat walk_at "s"
    refine x_LcLF g1' (by rw [List.length_map]; omega) (fun j => decide ((ws.getD j (0, 0)).1 = cell)) (fun j => .str (nmS R (ws.getD j (0, 0)).2)) ?_ ?_
    · intro j x H1 hx s1 R1 kR
      obtain ⟨r, hr', rfl⟩ := map_some hx
      obtain ⟨y, hy⟩ := get_some (l := ws) (i := j) (by have := get_lt hr'; omega)
      have h6 := (g3 j r y hr' hy).up (Kp.same s1)
      have h6' : H1 r = some (.tup [.int y.1, .str (nmS R y.2)]) := h6.h
      have ey : ws.getD j (0, 0) = y := by rw [List.getD_eq_getElem?_getD, hy] <;> rfl
      repeat walk_at "s"
      refine kR _ rfl ?_ fun _ H2 s2 Q2 k2 => ?_
      · rw [ey]
        intro QT kt
        repeat walk_at "s"
        exact kt _ (Same.refl _)
      · have k3 := k2 _ (Same.refl _)
        rw [ey] at k3
        repeat walk_at "s"
        exact k3
    intro D H1 n1
    rw [List.length_map, g2, gv_filter ws (0, 0) (fun x => decide (x.1 = cell)) (fun x => V.str (nmS R x.2))] at n1
    have d1 := n1.at_
    repeat walk_at "s"
    intro p H2 n2
    have d2 := n2.up d1
    have n2' := n2.at_
    refine x_cat d2 n2' (by rw [List.length_map, sizeLine_eq]; have := List.length_filter_le (fun x : Int × Nat => decide (x.1 = cell)) ws; show _ + 1 ≤ _; omega) fun u H3 n3 => ?_
    have d3 := n3.at_
    have hv := atI_nat (ways_pick cell o (fun t => V.str (nmS R t)) ws)
    repeat walk_at "s"
    exact fin H3 ((n1.same.trans n2.same).trans n3.same)
  | jmp v t =>
    have h5 : H la = some (.tup [.str Wd.jmp.str, .int v, .str (nmS R t)]) := a1'
    repeat walk_at "s"
    exact fin H (Same.refl _)
  | skp v t =>
    have h5 : H la = some (.tup [.str Wd.skp.str, .int v, .str (nmS R t)]) := a1'
    repeat walk_at "s"
    exact fin H (Same.refl _)
  | set v t => exact hin.2.2.elim
  | upt v t u => exact hin.2.2.elim
  | cut => exact hin.2.2.elim
  | rfs => exact hin.2.2.elim
end
end
end K21
end

section
set_option maxRecDepth 100000
set_option maxHeartbeats 4000000
namespace K21
open PySem PySem.Spec PyProof.Rows L2
noncomputable section
local macro_rules | `(tactic| walk_at "hp") => `(tactic| first
  | assumption
  | ((with_reducible refine' At.h ?q); (case q => assumption))
  | ((with_reducible refine' New.at_ ?q); (case q => assumption))
  | ((with_reducible refine' Chg.at_ ?q); (case q => assumption))
  | ((with_reducible refine' New.up ?n ?q); (case n => assumption); (case q => walk_at "hp"))
  | ((with_reducible refine' Same.up ?n ?q); (case n => assumption); (case q => walk_at "hp")))
local macro_rules | `(tactic| walk_at "sz") => `(tactic| first | exact Nat.le_of_ble_eq_true rfl | assumption | omega)
local macro_rules | `(tactic| walk_at "i") => `(tactic| first
  | with_reducible refine' x_I0 ?_
  | ((with_reducible refine' x_I ?c ?_); (case c => first | assumption | (show (_ : Int) ≠ 0; omega) | exact .inr ⟨by decide, by decide⟩ | exact .inl ⟨by decide, by decide⟩ | (refine ⟨?_, ?_⟩ <;> first | decide | omega)))
  | with_reducible refine' x_eqI ?_
  | with_reducible refine' x_neI ?_
  | with_reducible refine' x_eqS ?_
  | with_reducible refine' x_neS ?_
  | with_reducible refine' x_isN ?_
  | with_reducible refine' x_notN ?_
  | with_reducible refine' x_U ?_
  | with_reducible refine' x_int ?_
  | with_reducible refine' x_intB ?_
  | with_reducible refine' x_min2 ?_
  | with_reducible refine' x_max2 ?_
  | ((with_reducible refine' x_ixLh ?h ?v ?_); (case h => walk_at "hp"); (case v => first | exact rfl | assumption))
  | ((with_reducible refine' x_ixTh ?h ?v ?_); (case h => walk_at "hp"); (case v => first | exact rfl | assumption))
  | ((with_reducible refine' x_lenL ?h ?_); (case h => walk_at "hp"))
  | ((with_reducible refine' x_lenT ?h ?_); (case h => walk_at "hp"))
  | ((with_reducible refine' x_gtuph ?h ?l ?_); (case h => walk_at "hp"); (case l => exact rfl))
  | ((with_reducible refine' x_BmAh ?h ?_); (case h => walk_at "hp"))
  | ((with_reducible refine' x_BmA0h ?h ?_); (case h => walk_at "hp"))
  | ((with_reducible refine' x_inStr ?h ?_); (case h => walk_at "hp"))
  | ((with_reducible refine' x_ninStr ?h ?_); (case h => walk_at "hp"))
  | ((with_reducible refine' x_inInt ?h ?_); (case h => walk_at "hp"))
  | ((with_reducible refine' x_ninInt ?h ?_); (case h => walk_at "hp"))
  | ((with_reducible refine' x_inL ?h ?f ?g ?_); (case h => walk_at "hp"); (case f => exact rfl); (case g => first | exact rfl | assumption))
  | ((with_reducible refine' x_inT ?h ?f ?g ?_); (case h => walk_at "hp"); (case f => exact rfl); (case g => first | exact rfl | assumption))
  | ((with_reducible refine' x_notInL ?h ?f ?g ?_); (case h => walk_at "hp"); (case f => exact rfl); (case g => first | exact rfl | assumption))
  | ((with_reducible refine' x_setL ?h ?j ?_); (case h => walk_at "hp"); (case j => first | exact rfl | assumption))
  | ((with_reducible refine' x_append ?h ?l ?_); (case h => walk_at "hp"); (case l => walk_at "sz"))
  | ((with_reducible refine' x_neNil ?h ?g ?_); (case h => walk_at "hp"); (case g => walk_at "hp"))
  | ((with_reducible refine' x_eqNil ?h ?g ?_); (case h => walk_at "hp"); (case g => walk_at "hp"))
  | ((with_reducible refine' x_DgA ?h ?v ?_); (case h => walk_at "hp"); (case v => first | exact stK_at _ _ _ | exact bkK_first _ _ | exact bkK_lines _ _ | exact stK_kept _ _ _ | exact stK_left _ _ _ | assumption))
  | ((with_reducible refine' x_DspS ?h ?_); (case h => walk_at "hp"))
  | ((with_reducible refine' x_AlT ?h ?_); (case h => walk_at "sz"))
  | ((with_reducible refine' x_AlL ?h ?_); (case h => walk_at "sz"))
  | ((with_reducible refine' x_Rg1 ?a ?b ?_); (case a => omega); (case b => omega))
  | ((with_reducible refine' x_Rg2 ?a ?b ?c ?d ?_); (case a => omega); (case b => omega); (case c => omega); (case d => omega))
  | with_reducible refine' x_AlO ?_)
local macro_rules | `(tactic| walk_at "s") => `(tactic| first
  | with_reducible refine' x_seq ?_
  | with_reducible refine' x_asg ?_
  | with_reducible refine' x_gname ?_
  | ((with_reducible refine' x_var ?h ?_); (case h => exact rfl))
  | with_reducible refine' x_c ?_
  | with_reducible refine' x_op ?_
  | with_reducible refine' x_cons ?_
  | with_reducible refine' x_nil ?_
  | with_reducible refine' x_cb ?_
  | with_reducible refine' x_ret ?_
  | with_reducible refine' x_ifS ?_
  | with_reducible refine' x_test ?_
  | with_reducible refine' x_B ?_
  | with_reducible refine' x_bl ?_
  | with_reducible refine' x_if ?_
  | with_reducible refine' x_call ?_
  | with_reducible refine' x_tup ?_
  | with_reducible refine' x_lst ?_
  | with_reducible refine' x_gcons ?_
  | with_reducible refine' x_gnil ?_
  | with_reducible refine' x_gsub ?_
  | with_reducible refine' x_next ?_
  | with_reducible refine' x_drop ?_
  | with_reducible refine' x_and ?_
  | with_reducible refine' x_or ?_
  | with_reducible refine' x_not ?_
  | with_reducible refine' x_andV ?_
  | with_reducible refine' x_orV ?_
  | with_reducible refine' x_un ?_
  | with_reducible refine' x_chain ?_
  | with_reducible refine' x_sfld ?_
  | with_reducible refine' x_par ?_
  | with_reducible refine' x_par2 ?_
  | with_reducible refine' x_par3 ?_
  | with_reducible refine' x_par33 ?_
  | with_reducible refine' x_fld ?_
  | with_reducible refine' x_meth ?_
  | with_reducible refine' x_bm ?_
  | with_reducible refine' x_bm0 ?_
  | with_reducible refine' x_forL ?_
  | with_reducible refine' x_forT ?_
  | with_reducible refine' x_forR1 ?_
  | with_reducible refine' x_forR2 ?_
  | with_reducible refine' x_lcL ?_
  | with_reducible refine' x_lcT ?_
  | with_reducible refine' x_lcR1 ?_
  | with_reducible refine' x_lcR2 ?_
  | with_reducible refine' x_dnew ?_
  | with_reducible refine' x_retN ?_
  | with_reducible refine' x_ff ?_
  | with_reducible refine' x_lrg1 ?_
  | with_reducible refine' x_disp ?_
  | with_reducible refine' x_pnil ?_
  | with_reducible refine' x_pcons ?_
  | with_reducible refine' x_dget ?_
  | with_reducible refine' x_dput ?_
  | with_reducible refine' x_dnewN ?_
  | with_reducible refine' x_nin ?_
  | with_reducible refine' x_nget ?_
  | with_reducible refine' x_nput ?_
  | ((with_reducible refine' x_yes ?e ?_); (case e => first | decide +kernel | exact not_int_non _ | exact not_str_non _))
  | ((with_reducible refine' x_no ?e ?_); (case e => first | decide +kernel | exact int_non _ | exact str_non _))
  | with_reducible refine' x_lrg2 ?_
  | with_reducible refine' x_tt ?_
  | with_reducible refine' x_break ?_
  | walk_at "i")

def Nsc_law_far : List Str := ["_law_book_here", "_law_state", "_law_count", "_law_cell", "_law_seen", "_law_done", "_law_many", "_law_last", "_law_rest", "_law_k", "_law_key", "_law_ring", "_law_gain", "_law_times", "_law_is_cut"]
theorem sc_law_far : FnScope Nsc_law_far ["_law_book_here", "_law_state", "_law_count", "_law_cell"] (defScope (topS 65)) := ⟨rfl, rfl, rfl, by decide +kernel, rfl, by decide +kernel, by decide +kernel⟩
abbrev farK (sd : Addr) (d : Int) : List (Key × V) := [(Sum.inr "state", .ref sd), (Sum.inr "done", .int d), (Sum.inr "many", .int 0), (Sum.inr "last", .non)]
theorem farK_m (sd : Addr) (d : Int) : mergeK [] (farK sd d) = farK sd d := merge_ok (by show ([Sum.inr "state", Sum.inr "done", Sum.inr "many", Sum.inr "last"] : List Key).Nodup; decide +kernel)
theorem farK_s (sd : Addr) (d : Int) : valV (farK sd d) (Sum.inr "state") = some (.ref sd) := valV_pos rfl
theorem nat_bd {a b : Nat} (h : a ≤ b) (hb : b < 2 ^ 110) : (a : Int).natAbs < 2 ^ 110 := by omega
section
variable {P : Program} {w : World} {K : PySem.W.Frag} {mg : Str → Option Value} {base : Heap}
/-- far ahead, quietly -/
def spLfar : Sp := fun vs H Q _ => ∃ (bk st : Addr) (R : Rd) (s : St) (n : Nat) (cell : Int), vs = [.ref bk, .ref st, .int n, .int cell] ∧ BookAt H bk R ∧ WF R ∧ H st = some (stO R s) ∧ Live R.ln s ∧ 0 ≤ cell ∧ cell ≤ 6 ∧ n < 2 ^ 110 ∧ Quiet R.ln cell n s ∧
  ∀ (a sd : Addr) (kvs : List (Key × V)) (H' : Hp), Same H H' → H' sd = some (stO R (iter R.ln cell n s)) → H' a = some (.dK kvs) → valV kvs (Sum.inr "state") = some (.ref sd) → Q (.ref a) H'
theorem ok_lfar {f : Addr} {fd : FuncData} (F : L2.Fun K "_law_far" "_law_far" (topS 65) f fd) (m : mg "_law_far" = some (.ref f)) (b : Binds K fd ["_law_book_here", "_law_state", "_law_count", "_law_cell"] []) (G : Gm K mg) (c__law_step : C8.Cal P w K mg base 2 "_law_step" spLstep []) : C8.Cal P w K mg base 3 "_law_far" spLfar [] := by
  refine calN F m b sc_law_far (fun vs H Q E h => ?_) (fun cdv A outer s H vs Q E hr h => ?_)
  · obtain ⟨bk, st, R, s, n, cell, rfl, _⟩ := h
    rfl
  obtain ⟨bk, st, R, s, n, cell, rfl, hb, wf, hst, hs, c0, c1, hN, hq, q⟩ := h
  refine ⟨_, (pss_cons (ps_set (i := 4) sc_law_far.nd rfl (Or.inl rfl) k_dnewN) (pss_cons (ps_set (i := 5) sc_law_far.nd rfl (Or.inl rfl) pe_int) (pss_cons (ps_set (i := 6) sc_law_far.nd rfl (Or.inl rfl) pe_int) (pss_cons (ps_set (i := 7) sc_law_far.nd rfl (Or.inl rfl) pe_non) (pss_cons (ps_set (i := 8) sc_law_far.nd rfl (Or.inl rfl) (pv 2)) (pss_cons (ps_for PassesOwn.never rfl (pi_range1 rfl G.range (pa_cons pe_int pa_nil)) (pg_name (i := 9) sc_law_far.nd rfl (Or.inl rfl)) (pss_cons (ps_if (PW.pt (pw_or (pt_cmpR op_eq (pv 8) pe_int (nomark _)) (pw_or1 (pt_cmpR op_isN1 (pe_dget (hu_of hr) (pv 1) pe_str (fun _ _ => rfl)) pe_non (nomark _))))) (pss_one ps_break) pss_nil) (pss_cons (ps_set (i := 10) sc_law_far.nd rfl (Or.inl rfl) (pe_tup (pa_cons (pe_dget (hu_of hr) (pv 1) pe_str (fun _ _ => rfl)) (pa_cons (pe_dget (hu_of hr) (pv 1) pe_str (fun _ _ => rfl)) (pa_cons (pe_dget (hu_of hr) (pv 1) pe_str (fun _ _ => rfl)) pa_nil))))) (C8.pss_cut (ps_if (pt_cmp (k_dinN (hu_of hr) (pv 10) (pv 4))) (pss_cons (ps_set (i := 11) sc_law_far.nd rfl (Or.inl rfl) (pe_op op_sub (pv 5) (pe_ix ix_tup (k_dgetN (hu_of hr) (pv 4) (pv 10) (fun _ _ => rfl)) pe_int (fun _ _ => rfl)))) (pss_cons (ps_set (i := 12) sc_law_far.nd rfl (Or.inl rfl) (pe_op op_sub (pv 6) (pe_ix ix_tup (k_dgetN (hu_of hr) (pv 4) (pv 10) (fun _ _ => rfl)) pe_int (fun _ _ => rfl)))) (pss_cons (ps_set (i := 13) sc_law_far.nd rfl (Or.inl rfl) (pe_op op_fdivW (pv 8) (pv 11))) (pss_cons (ps_set (i := 7) sc_law_far.nd rfl (Or.inl rfl) (pe_ifExp (pt_cmpR op_gt (pv 12) pe_int (nomark _)) (pe_op op_add (pv 7) (pe_op op_mulW (pv 13) (pv 11))) (pv 7))) (pss_cons (ps_set (i := 6) sc_law_far.nd rfl (Or.inl rfl) (pe_op op_add (pv 6) (pe_op op_mulW (pv 13) (pv 12)))) (pss_cons (ps_set (i := 5) sc_law_far.nd rfl (Or.inl rfl) (pe_op op_add (pv 5) (pe_op op_mulW (pv 13) (pv 11)))) (pss_cons (ps_set (i := 8) sc_law_far.nd rfl (Or.inl rfl) (pe_op op_sub (pv 8) (pe_op op_mulW (pv 13) (pv 11)))) (pss_one (ps_set (i := 4) sc_law_far.nd rfl (Or.inl rfl) k_dnewN))))))))) pss_nil) (pss_one (ps_if (pt_cmpR op_gt (pv 8) pe_int (nomark _)) (pss_cons (k_dputN (hu_of hr) (pv 4) (pv 10) (pe_tup (pa_cons (pv 5) (pa_cons (pv 6) pa_nil))) rfl) (pss_cons (ps_asg (C8.pe_c c__law_step hr (by decide) rfl (pa_cons (pv 0) (pa_cons (pv 1) (pa_cons (pv 3) pa_nil)))) (pg_tup rfl (pgs_cons (pg_name (i := 1) sc_law_far.nd rfl (Or.inl rfl)) (pgs_cons (pg_name (i := 14) sc_law_far.nd rfl (Or.inl rfl)) pgs_nil)))) (pss_cons (ps_set (i := 5) sc_law_far.nd rfl (Or.inl rfl) (pe_op op_add (pv 5) pe_int)) (pss_cons (ps_set (i := 8) sc_law_far.nd rfl (Or.inl rfl) (pe_op op_sub (pv 8) pe_int)) (pss_cons (ps_set (i := 6) sc_law_far.nd rfl (Or.inl rfl) (pe_op op_add (pv 6) (pe_callTy k_int (by rfl) G.int (by decide +kernel) (pa_cons (pv 14) pa_nil)))) (pss_one (ps_set (i := 7) sc_law_far.nd rfl (Or.inl rfl) (pe_ifExp (pt_val (pv 14)) (pv 5) (pv 7))))))))) pss_nil)))))) (pss_one (ps_ret (pe_disp (pps_cons pe_str (pv 1) (pps_cons pe_str (pv 5) (pps_cons pe_str (pv 6) (pps_cons pe_str (pv 7) pps_nil)))) (by rfl) (by rfl) (fun z => by cases z) (by decide)))))))))), ?_⟩
  rw [show L2.start Nsc_law_far [.ref bk, .ref st, .int n, .int cell] = [some (.ref bk), some (.ref st), some (.int n), some (.int cell), none, none, none, none, none, none, none, none, none, none, none] from rfl]; try simp only [cxK, cxK2, cxP, cxW, cxPn, cxWn]
  repeat walk_at "s"
  intro se0 H1 ne0
  repeat walk_at "s"
  refine x_ForR (m := 700) (by omega) (fun j σ H' => ∃ (d rr : Nat) (sa se : Addr) (es : List SE) (x9 x10 x11 x12 x13 x14 : Option V), σ = [some (.ref bk), some (.ref sa), some (.int n), some (.int cell), some (.ref se), some (.int d), some (.int 0), some .non, some (.int rr), x9, x10, x11, x12, x13, x14] ∧
    Same H H' ∧ d + rr = n ∧ H' sa = some (stO R (iter R.ln cell d s)) ∧ H se = none ∧ SD P w (keyL R) R.ln cell s H' se es d ∧ (∀ e ∈ es, ∃ va, e.2.2 = .ref va ∧ H' va = some (.tup [.int e.1, .int 0])) ∧ ((es.length = j ∧ d = j) ∨ j + rr ≤ 600)) ?_ ?_ ?_
  · exact ⟨0, n, st, se0, [], none, none, none, none, none, none, rfl, ne0.same, Nat.zero_add _, ne0.up hst, ne0.fresh, SD.nil ne0, (fun _ h => nomatch h), .inl ⟨rfl, rfl⟩⟩
  · rintro j σ H2 hj ⟨d, rr, sa, se, es, x9, x10, x11, x12, x13, x14, rfl, s2, hdr, hsa, hse, sd, hva, ph⟩
    have lv := hq.live wf ⟨c0, c1⟩ hs d (by omega)
    obtain ⟨i, l, e1, hl, hin⟩ := id lv
    have hsa' : H2 sa = some (.dK (stK (atS R (iter R.ln cell d s).ln) (kO (iter R.ln cell d s).kept) (.int (iter R.ln cell d s).left))) := hsa
    rw [e1] at hsa'
    have hsa' : H2 sa = some (.dK (stK (.str (nmS R i)) (kO (iter R.ln cell d s).kept) (.int (iter R.ln cell d s).left))) := hsa'
    repeat walk_at "s"
    refine x_ite (fun h0 => ?_) (fun h0 => ?_)
    · repeat walk_at "s"
      intro p H3 n3
      repeat walk_at "s"
      refine x_DspA (farK sa d) (farK sa d) n3.at_ rfl (by show 4 ≤ 15; decide) (farK_m sa d) fun H4 c4 => ?_
      have hd : d = n := by omega
      have s4 := (n3.chg c4).same
      exact q p sa _ H4 (s2.trans s4) (by rw [← hd]; exact s4 _ _ hsa) c4.at_ (farK_s _ _)
    · have hr0 : 0 < rr := by omega
      repeat walk_at "s"
      intro p H3 n3
      have key3 : H3 p = some (.tup ((keyL R (iter R.ln cell d s)).map nV)) := by
        rw [keyL_map, e1]
        exact n3.at_
      have sd3 := sd.up n3.same
      repeat walk_at "s"
      refine x_cut (M := fun σ H' => ∃ (d' rr' : Nat) (mn : Int) (se' : Addr) (es' : List SE) (x9 x11 x12 x13 x14 : Option V), σ = [some (.ref bk), some (.ref sa), some (.int n), some (.int cell), some (.ref se'), some (.int d'), some (.int mn), some .non, some (.int rr'), x9, some (.ref p), x11, x12, x13, x14] ∧
        mn = 0 ∧ Same H3 H' ∧ d' + rr' = n ∧ iter R.ln cell d' s = iter R.ln cell d s ∧ H se' = none ∧ SD P w (keyL R) R.ln cell s H' se' es' d' ∧ (∀ e ∈ es', ∃ va, e.2.2 = .ref va ∧ H' va = some (.tup [.int e.1, .int 0])) ∧ valN (kvOf (keyL R) R.ln cell s es') (keyL R (iter R.ln cell d s)) = none ∧
        ((es'.length = j ∧ d' = j ∧ rr' = rr) ∨ (j + rr' ≤ 600 ∧ j + 1 ≤ 600))) ?_ ?_
      · repeat walk_at "s"
        refine x_NiA sd3.at_ sd3.ks key3 ?_
        repeat walk_at "s"
        refine x_iteB (fun hv => ?_) (fun hv => ?_)
        · obtain ⟨v, hv⟩ := Option.isSome_iff_exists.mp hv
          obtain ⟨⟨a, qa, v'⟩, he, rfl, hk⟩ := valN_some hv
          have had : a < d := sd.lt _ he
          obtain ⟨va, hva1, hva2⟩ := hva _ he
          have hva1 : v' = .ref va := hva1
          subst hva1
          have hva3 : H3 va = some (.tup [.int a, .int 0]) := n3.up hva2
          have ring := keyL_inj wf (hq.live wf ⟨c0, c1⟩ hs a (by omega)) lv hk
          obtain ⟨g, hg⟩ : ∃ g : Nat, g = d - a := ⟨_, rfl⟩
          have eg : (d : Int) - (a : Int) = (g : Int) := by omega
          have hdv : CDivW (rr : Int) ((d : Int) - (a : Int)) := by rw [eg]; exact wide_div (b := 110) (by omega) (nat_bd (by omega : g ≤ n) hN) (by decide) (by decide)
          have eq : (rr : Int) / ((d : Int) - (a : Int)) = ((rr / g : Nat) : Int) := by rw [eg]; rfl
          have hqn : rr / g ≤ n := Nat.le_trans (Nat.div_le_self ..) (by omega)
          have hm1 : CMulW ((rr : Int) / ((d : Int) - (a : Int))) ((d : Int) - (a : Int)) := by rw [eq, eg]; exact wide_mul (a := 110) (b := 110) (nat_bd hqn hN) (nat_bd (by omega : g ≤ n) hN) (by decide) (by decide) (by decide)
          have hm2 : CMulW ((rr : Int) / ((d : Int) - (a : Int))) ((0 : Int) - 0) := by rw [eq]; exact wide_mul (a := 110) (b := 110) (nat_bd hqn hN) (by decide) (by decide) (by decide) (by decide)
          have get : ∀ {σ : L2.St} {Q2 : VK}, Q2 (.ref va) H3 → NgA P w (.ref se) (.ref p) H3 Q2 := fun k => x_NgA sd3.at_ sd3.ks key3 hv k
          repeat walk_at "s"
          refine get (σ := []) ?_
          repeat walk_at "s"
          refine get (σ := []) ?_
          repeat walk_at "s"
          intro se2 H4 n4
          have hdm : (d : Int) + (rr : Int) / ((d : Int) - (a : Int)) * ((d : Int) - (a : Int)) = ((d + rr / g * g : Nat) : Int) := by rw [eq, eg]; rfl
          have hrm : (rr : Int) - (rr : Int) / ((d : Int) - (a : Int)) * ((d : Int) - (a : Int)) = ((rr % g : Nat) : Int) := by
            rw [eq, eg]
            have := Nat.div_add_mod rr g
            rw [Nat.mul_comm] at this
            have h2 : ((rr / g : Nat) : Int) * (g : Int) = ((rr / g * g : Nat) : Int) := rfl
            rw [h2]
            omega
          rw [hdm, hrm]
          repeat walk_at "s"
          have hmod := Nat.mod_lt rr (show 0 < g by omega)
          have hml := Nat.mod_le rr g
          have hes := sd.len wf ⟨c0, c1⟩ hs hq (by omega)
          refine ⟨d + rr / g * g, rr % g, _, se2, [], _, _, _, _, _, rfl, ?_, n4.same, ?_, ?_, ?_, SD.nil n4, (fun _ h => nomatch h), rfl, .inr ⟨?_, ?_⟩⟩
          · rw [Int.sub_self, Int.mul_zero] <;> rfl
          · have := Nat.div_add_mod rr g
            rw [Nat.mul_comm] at this
            omega
          · rw [hg]; exact iter_ring ring had _
          · cases hz : H se2 with
            | none => rfl
            | some o => exact absurd ((s2.trans n3.same) _ _ hz) (by rw [n4.fresh]; exact nofun)
          · rcases ph with ⟨g1, g2⟩ | g <;> omega
          · rcases ph with ⟨g1, g2⟩ | g <;> omega
        · repeat walk_at "s"
          refine ⟨d, rr, 0, se, es, _, _, _, _, _, rfl, rfl, Same.refl _, hdr, rfl, hse, sd3, fun e he => ?_, ?_, ?_⟩
          · obtain ⟨va, g1, g2⟩ := hva e he
            exact ⟨va, g1, n3.up g2⟩
          · cases hh : valN (kvOf (keyL R) R.ln cell s es) (keyL R (iter R.ln cell d s)) with
            | none => rfl
            | some v => rw [hh] at hv; exact nomatch hv
          · rcases ph with ⟨g1, g2⟩ | g
            · exact .inl ⟨g1, g2, rfl⟩
            · exact .inr ⟨g, by omega⟩
      · rintro σ H4 ⟨d', rr', mn, se', es', x9', x11', x12', x13', x14', rfl, rfl, s4, hdr', hit, hse', sd', hva', hn', ph'⟩
        have key4 := s4 _ _ key3
        have hsa4 : H4 sa = some (stO R (iter R.ln cell d' s)) := by rw [hit]; exact s4 _ _ (n3.up hsa)
        rw [← hit] at hn' key4
        have s04 : Same H H4 := (s2.trans n3.same).trans s4
        repeat walk_at "s"
        refine x_ite (fun hr => ?_) (fun hr => ?_)
        · repeat walk_at "s"
          intro va H5 n5
          have sd5 := sd'.up n5.same
          have key5 := n5.up key4
          have va5 := n5.at_
          have sa5 := n5.up hsa4
          have hlen := sd'.len wf ⟨c0, c1⟩ hs hq (by omega)
          repeat walk_at "s"
          refine x_NpA sd5.at_ sd5.ks key5 (by unfold kvOf; rw [List.length_map, sizeLine_eq]; omega) hn' fun H6 c6 ks6 => ?_
          have s06 : Same H H6 := Same.chg (s04.trans n5.same) hse' c6
          have tupne : ∀ {x : Addr} {xs : List V}, H5 x = some (.tup xs) → H6 x = some (.tup xs) := fun h => c6.up (ne_of h sd5.at_ (fun z => nomatch (show HO.tup _ = HO.ext _ from z))) h
          have sa6 : H6 sa = some (stO R (iter R.ln cell d' s)) := c6.up (ne_of sa5 sd5.at_ (fun z => nomatch (show HO.dK _ = HO.ext _ from z))) sa5
          have sd6 : SD P w (keyL R) R.ln cell s H6 se' (es' ++ [(d', p, .ref va)]) (d' + 1) := sd5.put hn' c6.at_ ks6 (Nat.lt_succ_self _)
          have ev := evS_none (hq d' (by omega))
          repeat walk_at "s"
          refine ⟨bk, sa, R, iter R.ln cell d' s, cell, rfl, hb.up s06, wf, sa6, hq.live wf ⟨c0, c1⟩ hs d' (by omega), c0, c1, fun ta sb H7 s7 hsb hta => ?_⟩
          rw [ev.1] at hta
          repeat walk_at "s"
          rw [show (rr' : Int) - 1 = ((rr' - 1 : Nat) : Int) by omega]
          refine ⟨d' + 1, rr' - 1, sb, se', es' ++ [(d', p, .ref va)], _, _, _, _, _, _, rfl, s06.trans s7, by omega, hsb, hse', sd6.up s7, fun e he => ?_, ?_⟩
          · rcases List.mem_append.mp he with he | he
            · obtain ⟨v2, g1, g2⟩ := hva' e he
              exact ⟨v2, g1, s7 _ _ (tupne (n5.up g2))⟩
            · rw [List.mem_singleton.mp he]
              exact ⟨va, rfl, s7 _ _ (tupne va5)⟩
          · rw [List.length_append, List.length_singleton]
            rcases ph' with ⟨g1, g2, g3⟩ | ⟨g1, g2⟩
            · exact .inl ⟨by omega, by omega⟩
            · exact .inr (by omega)
        · repeat walk_at "s"
          refine ⟨d', rr', sa, se', es', _, _, _, _, _, _, rfl, s04, hdr', hsa4, hse', sd', hva', ?_⟩
          rcases ph' with ⟨g1, g2, g3⟩ | ⟨g1, g2⟩
          · omega
          · exact .inr (by omega)
  · rintro σ H2 ⟨d, rr, sa, se, es, x9, x10, x11, x12, x13, x14, rfl, s2, hdr, hsa, hse, sd, hva, ph⟩
    have hes := sd.len wf ⟨c0, c1⟩ hs hq (by omega)
    have : False := by rcases ph with ⟨g1, g2⟩ | g <;> omega
    exact this.elim
end
end
end K21
end

section
set_option maxRecDepth 100000
set_option maxHeartbeats 4000000
namespace K21
open PySem PySem.Spec PyProof.Rows L2
noncomputable section
local macro_rules | `(tactic| walk_at "hp") => `(tactic| first
  | assumption
  | ((with_reducible refine' At.h ?q); (case q => assumption))
  | ((with_reducible refine' New.at_ ?q); (case q => assumption))
  | ((with_reducible refine' Chg.at_ ?q); (case q => assumption))
  | ((with_reducible refine' New.up ?n ?q); (case n => assumption); (case q => walk_at "hp"))
  | ((with_reducible refine' Same.up ?n ?q); (case n => assumption); (case q => walk_at "hp")))
local macro_rules | `(tactic| walk_at "sz") => `(tactic| first | exact Nat.le_of_ble_eq_true rfl | assumption | omega)
local macro_rules | `(tactic| walk_at "i") => `(tactic| first
  | with_reducible refine' x_I0 ?_
  | ((with_reducible refine' x_I ?c ?_); (case c => first | assumption | (show (_ : Int) ≠ 0; omega) | exact .inr ⟨by decide, by decide⟩ | exact .inl ⟨by decide, by decide⟩ | (refine ⟨?_, ?_⟩ <;> first | decide | omega)))
  | with_reducible refine' x_eqI ?_
  | with_reducible refine' x_neI ?_
  | with_reducible refine' x_eqS ?_
  | with_reducible refine' x_neS ?_
  | with_reducible refine' x_isN ?_
  | with_reducible refine' x_notN ?_
  | with_reducible refine' x_U ?_
  | with_reducible refine' x_int ?_
  | with_reducible refine' x_intB ?_
  | with_reducible refine' x_min2 ?_
  | with_reducible refine' x_max2 ?_
  | ((with_reducible refine' x_ixLh ?h ?v ?_); (case h => walk_at "hp"); (case v => first | exact rfl | assumption))
  | ((with_reducible refine' x_ixTh ?h ?v ?_); (case h => walk_at "hp"); (case v => first | exact rfl | assumption))
  | ((with_reducible refine' x_lenL ?h ?_); (case h => walk_at "hp"))
  | ((with_reducible refine' x_lenT ?h ?_); (case h => walk_at "hp"))
  | ((with_reducible refine' x_gtuph ?h ?l ?_); (case h => walk_at "hp"); (case l => exact rfl))
  | ((with_reducible refine' x_BmAh ?h ?_); (case h => walk_at "hp"))
  | ((with_reducible refine' x_BmA0h ?h ?_); (case h => walk_at "hp"))
  | ((with_reducible refine' x_inStr ?h ?_); (case h => walk_at "hp"))
  | ((with_reducible refine' x_ninStr ?h ?_); (case h => walk_at "hp"))
  | ((with_reducible refine' x_inInt ?h ?_); (case h => walk_at "hp"))
  | ((with_reducible refine' x_ninInt ?h ?_); (case h => walk_at "hp"))
  | ((with_reducible refine' x_inL ?h ?f ?g ?_); (case h => walk_at "hp"); (case f => exact rfl); (case g => first | exact rfl | assumption))
  | ((with_reducible refine' x_inT ?h ?f ?g ?_); (case h => walk_at "hp"); (case f => exact rfl); (case g => first | exact rfl | assumption))
  | ((with_reducible refine' x_notInL ?h ?f ?g ?_); (case h => walk_at "hp"); (case f => exact rfl); (case g => first | exact rfl | assumption))
  | ((with_reducible refine' x_setL ?h ?j ?_); (case h => walk_at "hp"); (case j => first | exact rfl | assumption))
  | ((with_reducible refine' x_append ?h ?l ?_); (case h => walk_at "hp"); (case l => walk_at "sz"))
  | ((with_reducible refine' x_neNil ?h ?g ?_); (case h => walk_at "hp"); (case g => walk_at "hp"))
  | ((with_reducible refine' x_eqNil ?h ?g ?_); (case h => walk_at "hp"); (case g => walk_at "hp"))
  | ((with_reducible refine' x_DgA ?h ?v ?_); (case h => walk_at "hp"); (case v => first | exact stK_at _ _ _ | exact bkK_first _ _ | exact bkK_lines _ _ | exact stK_kept _ _ _ | exact stK_left _ _ _ | assumption))
  | ((with_reducible refine' x_DspS ?h ?_); (case h => walk_at "hp"))
  | ((with_reducible refine' x_AlT ?h ?_); (case h => walk_at "sz"))
  | ((with_reducible refine' x_AlL ?h ?_); (case h => walk_at "sz"))
  | ((with_reducible refine' x_Rg1 ?a ?b ?_); (case a => omega); (case b => omega))
  | ((with_reducible refine' x_Rg2 ?a ?b ?c ?d ?_); (case a => omega); (case b => omega); (case c => omega); (case d => omega))
  | with_reducible refine' x_AlO ?_)
local macro_rules | `(tactic| walk_at "s") => `(tactic| first
  | with_reducible refine' x_seq ?_
  | with_reducible refine' x_asg ?_
  | with_reducible refine' x_gname ?_
  | ((with_reducible refine' x_var ?h ?_); (case h => exact rfl))
  | with_reducible refine' x_c ?_
  | with_reducible refine' x_op ?_
  | with_reducible refine' x_cons ?_
  | with_reducible refine' x_nil ?_
  | with_reducible refine' x_cb ?_
  | with_reducible refine' x_ret ?_
  | with_reducible refine' x_ifS ?_
  | with_reducible refine' x_test ?_
  | with_reducible refine' x_B ?_
  | with_reducible refine' x_bl ?_
  | with_reducible refine' x_if ?_
  | with_reducible refine' x_call ?_
  | with_reducible refine' x_tup ?_
  | with_reducible refine' x_lst ?_
  | with_reducible refine' x_gcons ?_
  | with_reducible refine' x_gnil ?_
  | with_reducible refine' x_gsub ?_
  | with_reducible refine' x_next ?_
  | with_reducible refine' x_drop ?_
  | with_reducible refine' x_and ?_
  | with_reducible refine' x_or ?_
  | with_reducible refine' x_not ?_
  | with_reducible refine' x_andV ?_
  | with_reducible refine' x_orV ?_
  | with_reducible refine' x_un ?_
  | with_reducible refine' x_chain ?_
  | with_reducible refine' x_sfld ?_
  | with_reducible refine' x_par ?_
  | with_reducible refine' x_par2 ?_
  | with_reducible refine' x_par3 ?_
  | with_reducible refine' x_par33 ?_
  | with_reducible refine' x_fld ?_
  | with_reducible refine' x_meth ?_
  | with_reducible refine' x_bm ?_
  | with_reducible refine' x_bm0 ?_
  | with_reducible refine' x_forL ?_
  | with_reducible refine' x_forT ?_
  | with_reducible refine' x_forR1 ?_
  | with_reducible refine' x_forR2 ?_
  | with_reducible refine' x_lcL ?_
  | with_reducible refine' x_lcT ?_
  | with_reducible refine' x_lcR1 ?_
  | with_reducible refine' x_lcR2 ?_
  | with_reducible refine' x_dnew ?_
  | with_reducible refine' x_retN ?_
  | with_reducible refine' x_ff ?_
  | with_reducible refine' x_lrg1 ?_
  | with_reducible refine' x_disp ?_
  | with_reducible refine' x_pnil ?_
  | with_reducible refine' x_pcons ?_
  | with_reducible refine' x_dget ?_
  | with_reducible refine' x_dput ?_
  | with_reducible refine' x_dnewN ?_
  | with_reducible refine' x_nin ?_
  | with_reducible refine' x_nget ?_
  | with_reducible refine' x_nput ?_
  | ((with_reducible refine' x_yes ?e ?_); (case e => first | decide +kernel | exact not_int_non _ | exact not_str_non _))
  | ((with_reducible refine' x_no ?e ?_); (case e => first | decide +kernel | exact int_non _ | exact str_non _))
  | with_reducible refine' x_lrg2 ?_
  | with_reducible refine' x_tt ?_
  | with_reducible refine' x_break ?_
  | walk_at "i")

def Nsc_law_ahead : List Str := ["_law_book_here", "_law_state", "_law_count", "_law_cell", "_law_seen", "_law_here", "_law_k", "_law_key", "_law_is_cut"]
theorem sc_law_ahead : FnScope Nsc_law_ahead ["_law_book_here", "_law_state", "_law_count", "_law_cell"] (defScope (topS 68)) := ⟨rfl, rfl, rfl, by decide +kernel, rfl, by decide +kernel, by decide +kernel⟩
/-- what is told, as a word -/
def wdO : Option Bool → V
  | none => .non
  | some true => .str "cut"
  | some false => .str "refuse"
theorem evS_isCut {L : List Ln} {cell : Int} {s : St} (h : (stepS L cell s).2 = true) : evS L cell s = some true := if_pos h
theorem evS_isGone {L : List Ln} {cell : Int} {s : St} (h : (stepS L cell s).2 = false) (g : (stepS L cell s).1.ln = none) : evS L cell s = some false := (if_neg (by rw [h]; decide)).trans (if_pos g)
theorem evS_isNone {L : List Ln} {cell : Int} {s : St} (h : (stepS L cell s).2 = false) (g : ¬ (stepS L cell s).1.ln = none) : evS L cell s = none := (if_neg (by rw [h]; decide)).trans (if_neg g)
theorem atS_non (R : Rd) (o : Option Nat) : decide (atS R o = .non) = decide (o = none) := by
  cases o with
  | none => rfl
  | some i => rw [show atS R (some i) = V.str (nmS R i) from rfl, str_non, decide_eq_false (fun z => nomatch z)]
section
variable {P : Program} {w : World} {K : PySem.W.Frag} {mg : Str → Option Value} {base : Heap}
/-- the first event ahead -/
def spLahead : Sp := fun vs H Q _ => ∃ (bk st : Addr) (R : Rd) (s : St) (n : Nat) (cell : Int), vs = [.ref bk, .ref st, .int n, .int cell] ∧ BookAt H bk R ∧ WF R ∧ H st = some (stO R s) ∧ Live R.ln s ∧ 0 ≤ cell ∧ cell ≤ 6 ∧ n < 2 ^ 110 ∧
  ∀ (a sd : Addr) (what : Option Bool) (done : Nat) (s' : St) (H' : Hp), Same H H' → Evt R.ln cell n s what done s' → H' sd = some (stO R s') → H' a = some (.tup [wdO what, .int done, .ref sd]) → Q (.ref a) H'
theorem ok_lahead {f : Addr} {fd : FuncData} (F : L2.Fun K "_law_ahead" "_law_ahead" (topS 68) f fd) (m : mg "_law_ahead" = some (.ref f)) (b : Binds K fd ["_law_book_here", "_law_state", "_law_count", "_law_cell"] []) (G : Gm K mg) (c__law_step : C8.Cal P w K mg base 2 "_law_step" spLstep [])
    (c__law_far : C8.Cal P w K mg base 3 "_law_far" spLfar []) : C8.Cal P w K mg base 4 "_law_ahead" spLahead [] := by
  refine calN F m b sc_law_ahead (fun vs H Q E h => ?_) (fun cdv A outer s H vs Q E hr h => ?_)
  · obtain ⟨bk, st, R, s, n, cell, rfl, _⟩ := h
    rfl
  obtain ⟨bk, st, R, s, n, cell, rfl, hb, wf, hst, hs, c0, c1, hN, q⟩ := h
  refine ⟨_, (pss_cons (ps_set (i := 4) sc_law_ahead.nd rfl (Or.inl rfl) k_dnewN) (pss_cons (ps_set (i := 5) sc_law_ahead.nd rfl (Or.inl rfl) (pv 1)) (pss_cons (ps_for PassesOwn.never rfl (pi_range1 rfl G.range (pa_cons pe_int pa_nil)) (pg_name (i := 6) sc_law_ahead.nd rfl (Or.inl rfl)) (pss_cons (ps_set (i := 7) sc_law_ahead.nd rfl (Or.inl rfl) (pe_tup (pa_cons (pe_dget (hu_of hr) (pv 5) pe_str (fun _ _ => rfl)) (pa_cons (pe_dget (hu_of hr) (pv 5) pe_str (fun _ _ => rfl)) (pa_cons (pe_dget (hu_of hr) (pv 5) pe_str (fun _ _ => rfl)) pa_nil))))) (pss_cons (ps_if (PW.pt (pw_or (pt_cmpR op_eq (pv 6) (pv 2) (nomark _)) (pw_or1 (pt_cmp (k_dinN (hu_of hr) (pv 7) (pv 4)))))) (pss_one ps_break) pss_nil) (pss_cons (k_dputN (hu_of hr) (pv 4) (pv 7) pe_bl rfl) (pss_cons (ps_asg (C8.pe_c c__law_step hr (by decide) rfl (pa_cons (pv 0) (pa_cons (pv 5) (pa_cons (pv 3) pa_nil)))) (pg_tup rfl (pgs_cons (pg_name (i := 5) sc_law_ahead.nd rfl (Or.inl rfl)) (pgs_cons (pg_name (i := 8) sc_law_ahead.nd rfl (Or.inl rfl)) pgs_nil)))) (pss_cons (ps_if (pt_val (pv 8)) (pss_one (ps_ret (pe_tup (pa_cons pe_str (pa_cons (pe_op op_add (pv 6) pe_int) (pa_cons (pv 5) pa_nil)))))) pss_nil) (pss_one (ps_if (pt_cmpR op_isN1 (pe_dget (hu_of hr) (pv 5) pe_str (fun _ _ => rfl)) pe_non (nomark _)) (pss_one (ps_ret (pe_tup (pa_cons pe_str (pa_cons (pe_op op_add (pv 6) pe_int) (pa_cons (pv 5) pa_nil)))))) pss_nil)))))))) (pss_one (ps_ret (pe_tup (pa_cons pe_non (pa_cons (pv 2) (pa_cons (pe_dget (hu_of hr) (C8.pe_c c__law_far hr (by decide) rfl (pa_cons (pv 0) (pa_cons (pv 1) (pa_cons (pv 2) (pa_cons (pv 3) pa_nil))))) pe_str (fun _ _ => rfl)) pa_nil))))))))), ?_⟩
  rw [show L2.start Nsc_law_ahead [.ref bk, .ref st, .int n, .int cell] = [some (.ref bk), some (.ref st), some (.int n), some (.int cell), none, none, none, none, none] from rfl]; try simp only [cxK, cxK2, cxP, cxW, cxPn, cxWn]
  repeat walk_at "s"
  intro se H1 ne0
  have hse : H se = none := ne0.fresh
  repeat walk_at "s"
  refine x_ForR (m := 300) (by omega) (fun j σ H' => ∃ (sa : Addr) (es : List SE) (x6 x7 x8 : Option V), σ = [some (.ref bk), some (.ref st), some (.int n), some (.int cell), some (.ref se), some (.ref sa), x6, x7, x8] ∧
    Same H H' ∧ j ≤ n ∧ Quiet R.ln cell j s ∧ H' sa = some (stO R (iter R.ln cell j s)) ∧ SD P w (keyL R) R.ln cell s H' se es j ∧ es.length = j) ?_ ?_ ?_
  · exact ⟨st, [], none, none, none, rfl, ne0.same, Nat.zero_le _, (fun _ h => nomatch h), ne0.up hst, SD.nil ne0, rfl⟩
  · rintro j σ H2 hj ⟨sa, es, x6, x7, x8, rfl, s2, hjn, hq, hsa, sd, hl⟩
    have lv := hq.live wf ⟨c0, c1⟩ hs j (Nat.le_refl _)
    obtain ⟨i, l, e1, hli, hin⟩ := id lv
    have hsa' : H2 sa = some (.dK (stK (atS R (iter R.ln cell j s).ln) (kO (iter R.ln cell j s).kept) (.int (iter R.ln cell j s).left))) := hsa
    repeat walk_at "s"
    intro p H3 n3
    have key3 : H3 p = some (.tup ((keyL R (iter R.ln cell j s)).map nV)) := by
      rw [keyL_map]
      exact n3.at_
    have sd3 := sd.up n3.same
    repeat walk_at "s"
    refine x_ite (fun hjn' => ?_) (fun hjn' => ?_)
    · have hqn : Quiet R.ln cell n s := hq.le (by omega)
      repeat walk_at "s"
      have s3 := s2.trans n3.same
      refine ⟨bk, st, R, s, n, cell, rfl, hb.up s3, wf, s3 _ _ hst, hs, c0, c1, hN, hqn, fun a sb kvs H4 s4 g1 g2 g3 => ?_⟩
      repeat walk_at "s"
      intro ta H5 n5
      exact q ta sb none n _ H5 ((s3.trans s4).trans n5.same) ⟨rfl, .inl ⟨rfl, rfl, hqn⟩⟩ (n5.up g1) n5.at_
    · repeat walk_at "s"
      refine x_NiA sd3.at_ sd3.ks key3 ?_
      repeat walk_at "s"
      refine x_iteB (fun hv => ?_) (fun hv => ?_)
      · obtain ⟨v, hv⟩ := Option.isSome_iff_exists.mp hv
        obtain ⟨⟨a, qa, v'⟩, he, rfl, hk⟩ := valN_some hv
        have haj : a < j := sd.lt _ he
        have ring := keyL_inj wf (hq.live wf ⟨c0, c1⟩ hs a (by omega)) lv hk
        have hqn : Quiet R.ln cell n s := quiet_ring ring haj hq n
        repeat walk_at "s"
        have s3 := s2.trans n3.same
        refine ⟨bk, st, R, s, n, cell, rfl, hb.up s3, wf, s3 _ _ hst, hs, c0, c1, hN, hqn, fun a sb kvs H4 s4 g1 g2 g3 => ?_⟩
        repeat walk_at "s"
        intro ta H5 n5
        exact q ta sb none n _ H5 ((s3.trans s4).trans n5.same) ⟨rfl, .inl ⟨rfl, rfl, hqn⟩⟩ (n5.up g1) n5.at_
      · have hn' : valN (kvOf (keyL R) R.ln cell s es) (keyL R (iter R.ln cell j s)) = none := by
          cases hh : valN (kvOf (keyL R) R.ln cell s es) (keyL R (iter R.ln cell j s)) with
          | none => rfl
          | some v => rw [hh] at hv; exact nomatch hv
        have sa3 := n3.up hsa
        repeat walk_at "s"
        refine x_NpA sd3.at_ sd3.ks key3 (by unfold kvOf; rw [List.length_map, sizeLine_eq]; omega) hn' fun H6 c6 ks6 => ?_
        have s06 : Same H H6 := Same.chg (s2.trans n3.same) hse c6
        have sa6 : H6 sa = some (stO R (iter R.ln cell j s)) := c6.up (ne_of sa3 sd3.at_ (fun z => nomatch (show HO.dK _ = HO.ext _ from z))) sa3
        have sd6 : SD P w (keyL R) R.ln cell s H6 se (es ++ [(j, p, .bl true)]) (j + 1) := sd3.put hn' c6.at_ ks6 (Nat.lt_succ_self _)
        repeat walk_at "s"
        refine ⟨bk, sa, R, iter R.ln cell j s, cell, rfl, hb.up s06, wf, sa6, lv, c0, c1, fun ta sb H7 s7 hsb hta => ?_⟩
        repeat walk_at "s"
        refine x_iteB (fun hcut => ?_) (fun hcut => ?_)
        · repeat walk_at "s"
          intro u H8 n8
          rw [show (0 : Int) + (j : Int) + 1 = ((j + 1 : Nat) : Int) by omega] at n8
          exact q u sb (some true) (j + 1) _ H8 ((s06.trans s7).trans n8.same) ⟨rfl, .inr ⟨j, rfl, by omega, hq, evS_isCut hcut, nofun⟩⟩ (n8.up hsb) n8.at_
        · repeat walk_at "s"
          rw [atS_non]
          refine x_ite (fun hd => ?_) (fun hd => ?_)
          · repeat walk_at "s"
            intro u H8 n8
            rw [show (0 : Int) + (j : Int) + 1 = ((j + 1 : Nat) : Int) by omega] at n8
            exact q u sb (some false) (j + 1) _ H8 ((s06.trans s7).trans n8.same) ⟨rfl, .inr ⟨j, rfl, by omega, hq, evS_isGone hcut hd, nofun⟩⟩ (n8.up hsb) n8.at_
          · repeat walk_at "s"
            refine ⟨sb, es ++ [(j, p, .bl true)], _, _, _, rfl, s06.trans s7, by omega, ?_, hsb, sd6.up s7, by rw [List.length_append, List.length_singleton]; omega⟩
            intro k hk
            by_cases hkj : k = j
            · rw [hkj]; exact evS_isNone hcut hd
            · exact hq k (by omega)
  · rintro σ H2 ⟨sa, es, x6, x7, x8, rfl, s2, hjn, hq, hsa, sd, hl⟩
    have := sd.len wf ⟨c0, c1⟩ hs hq (Nat.le_refl _)
    omega
end
end
end K21
end

section
set_option maxRecDepth 100000
set_option maxHeartbeats 4000000
namespace K21
open PySem PySem.Spec PyProof.Rows L2
noncomputable section
local macro_rules | `(tactic| walk_at "hp") => `(tactic| first
  | assumption
  | ((with_reducible refine' At.h ?q); (case q => assumption))
  | ((with_reducible refine' New.at_ ?q); (case q => assumption))
  | ((with_reducible refine' Chg.at_ ?q); (case q => assumption))
  | ((with_reducible refine' New.up ?n ?q); (case n => assumption); (case q => walk_at "hp"))
  | ((with_reducible refine' Same.up ?n ?q); (case n => assumption); (case q => walk_at "hp")))
local macro_rules | `(tactic| walk_at "sz") => `(tactic| first | exact Nat.le_of_ble_eq_true rfl | assumption | omega)
local macro_rules | `(tactic| walk_at "i") => `(tactic| first
  | with_reducible refine' x_I0 ?_
  | ((with_reducible refine' x_I ?c ?_); (case c => first | assumption | (show (_ : Int) ≠ 0; omega) | exact .inr ⟨by decide, by decide⟩ | exact .inl ⟨by decide, by decide⟩ | (refine ⟨?_, ?_⟩ <;> first | decide | omega)))
  | with_reducible refine' x_eqI ?_
  | with_reducible refine' x_neI ?_
  | with_reducible refine' x_eqS ?_
  | with_reducible refine' x_neS ?_
  | with_reducible refine' x_isN ?_
  | with_reducible refine' x_notN ?_
  | with_reducible refine' x_U ?_
  | with_reducible refine' x_int ?_
  | with_reducible refine' x_intB ?_
  | with_reducible refine' x_min2 ?_
  | with_reducible refine' x_max2 ?_
  | ((with_reducible refine' x_ixLh ?h ?v ?_); (case h => walk_at "hp"); (case v => first | exact rfl | assumption))
  | ((with_reducible refine' x_ixTh ?h ?v ?_); (case h => walk_at "hp"); (case v => first | exact rfl | assumption))
  | ((with_reducible refine' x_lenL ?h ?_); (case h => walk_at "hp"))
  | ((with_reducible refine' x_lenT ?h ?_); (case h => walk_at "hp"))
  | ((with_reducible refine' x_gtuph ?h ?l ?_); (case h => walk_at "hp"); (case l => exact rfl))
  | ((with_reducible refine' x_BmAh ?h ?_); (case h => walk_at "hp"))
  | ((with_reducible refine' x_BmA0h ?h ?_); (case h => walk_at "hp"))
  | ((with_reducible refine' x_inStr ?h ?_); (case h => walk_at "hp"))
  | ((with_reducible refine' x_ninStr ?h ?_); (case h => walk_at "hp"))
  | ((with_reducible refine' x_inInt ?h ?_); (case h => walk_at "hp"))
  | ((with_reducible refine' x_ninInt ?h ?_); (case h => walk_at "hp"))
  | ((with_reducible refine' x_inL ?h ?f ?g ?_); (case h => walk_at "hp"); (case f => exact rfl); (case g => first | exact rfl | assumption))
  | ((with_reducible refine' x_inT ?h ?f ?g ?_); (case h => walk_at "hp"); (case f => exact rfl); (case g => first | exact rfl | assumption))
  | ((with_reducible refine' x_notInL ?h ?f ?g ?_); (case h => walk_at "hp"); (case f => exact rfl); (case g => first | exact rfl | assumption))
  | ((with_reducible refine' x_setL ?h ?j ?_); (case h => walk_at "hp"); (case j => first | exact rfl | assumption))
  | ((with_reducible refine' x_append ?h ?l ?_); (case h => walk_at "hp"); (case l => walk_at "sz"))
  | ((with_reducible refine' x_neNil ?h ?g ?_); (case h => walk_at "hp"); (case g => walk_at "hp"))
  | ((with_reducible refine' x_eqNil ?h ?g ?_); (case h => walk_at "hp"); (case g => walk_at "hp"))
  | ((with_reducible refine' x_DgA ?h ?v ?_); (case h => walk_at "hp"); (case v => first | exact stK_at _ _ _ | exact bkK_first _ _ | exact bkK_lines _ _ | exact stK_kept _ _ _ | exact stK_left _ _ _ | assumption))
  | ((with_reducible refine' x_DspS ?h ?_); (case h => walk_at "hp"))
  | ((with_reducible refine' x_AlT ?h ?_); (case h => walk_at "sz"))
  | ((with_reducible refine' x_AlL ?h ?_); (case h => walk_at "sz"))
  | ((with_reducible refine' x_Rg1 ?a ?b ?_); (case a => omega); (case b => omega))
  | ((with_reducible refine' x_Rg2 ?a ?b ?c ?d ?_); (case a => omega); (case b => omega); (case c => omega); (case d => omega))
  | with_reducible refine' x_AlO ?_)
local macro_rules | `(tactic| walk_at "s") => `(tactic| first
  | with_reducible refine' x_seq ?_
  | with_reducible refine' x_asg ?_
  | with_reducible refine' x_gname ?_
  | ((with_reducible refine' x_var ?h ?_); (case h => exact rfl))
  | with_reducible refine' x_c ?_
  | with_reducible refine' x_op ?_
  | with_reducible refine' x_cons ?_
  | with_reducible refine' x_nil ?_
  | with_reducible refine' x_cb ?_
  | with_reducible refine' x_ret ?_
  | with_reducible refine' x_ifS ?_
  | with_reducible refine' x_test ?_
  | with_reducible refine' x_B ?_
  | with_reducible refine' x_bl ?_
  | with_reducible refine' x_if ?_
  | with_reducible refine' x_call ?_
  | with_reducible refine' x_tup ?_
  | with_reducible refine' x_lst ?_
  | with_reducible refine' x_gcons ?_
  | with_reducible refine' x_gnil ?_
  | with_reducible refine' x_gsub ?_
  | with_reducible refine' x_next ?_
  | with_reducible refine' x_drop ?_
  | with_reducible refine' x_and ?_
  | with_reducible refine' x_or ?_
  | with_reducible refine' x_not ?_
  | with_reducible refine' x_andV ?_
  | with_reducible refine' x_orV ?_
  | with_reducible refine' x_un ?_
  | with_reducible refine' x_chain ?_
  | with_reducible refine' x_sfld ?_
  | with_reducible refine' x_par ?_
  | with_reducible refine' x_par2 ?_
  | with_reducible refine' x_par3 ?_
  | with_reducible refine' x_par33 ?_
  | with_reducible refine' x_fld ?_
  | with_reducible refine' x_meth ?_
  | with_reducible refine' x_bm ?_
  | with_reducible refine' x_bm0 ?_
  | with_reducible refine' x_forL ?_
  | with_reducible refine' x_forT ?_
  | with_reducible refine' x_forR1 ?_
  | with_reducible refine' x_forR2 ?_
  | with_reducible refine' x_lcL ?_
  | with_reducible refine' x_lcT ?_
  | with_reducible refine' x_lcR1 ?_
  | with_reducible refine' x_lcR2 ?_
  | with_reducible refine' x_dnew ?_
  | with_reducible refine' x_retN ?_
  | with_reducible refine' x_ff ?_
  | with_reducible refine' x_lrg1 ?_
  | with_reducible refine' x_disp ?_
  | with_reducible refine' x_pnil ?_
  | with_reducible refine' x_pcons ?_
  | with_reducible refine' x_dget ?_
  | with_reducible refine' x_dput ?_
  | with_reducible refine' x_dnewN ?_
  | with_reducible refine' x_nin ?_
  | with_reducible refine' x_nget ?_
  | with_reducible refine' x_nput ?_
  | ((with_reducible refine' x_yes ?e ?_); (case e => first | decide +kernel | exact not_int_non _ | exact not_str_non _))
  | ((with_reducible refine' x_no ?e ?_); (case e => first | decide +kernel | exact int_non _ | exact str_non _))
  | with_reducible refine' x_lrg2 ?_
  | with_reducible refine' x_tt ?_
  | with_reducible refine' x_break ?_
  | walk_at "i")

def Nsc_law_book : List Str := ["_law_lines_here", "_law_book_here", "_law_name", "_law_line_here"]
theorem sc_law_book : FnScope Nsc_law_book ["_law_lines_here"] (defScope (topS 69)) := ⟨rfl, rfl, rfl, by decide +kernel, rfl, by decide +kernel, by decide +kernel⟩
theorem bkK_m (R : Rd) (ld : Addr) : mergeK [] (bkK R ld) = bkK R ld := merge_ok (by show ([Sum.inr "first", Sum.inr "lines"] : List Key).Nodup; decide +kernel)
section
variable {P : Program} {w : World} {K : PySem.W.Frag} {mg : Str → Option Value} {base : Heap}
/-- the law's book -/
def spBook : Sp := fun vs H Q _ => ∃ (a : Addr) (xs : List Addr) (R : Rd), vs = [.ref a] ∧ WF R ∧ LnsAt No H (nmV R.nm) false xs R ∧ H a = some (.lst (xs.map V.ref)) ∧
  ∀ (bk : Addr) (H' : Hp), Same H H' → BookAt H' bk R → Q (.ref bk) H'
theorem ok_book {f : Addr} {fd : FuncData} (F : L2.Fun K "_law_book" "_law_book" (topS 69) f fd) (m : mg "_law_book" = some (.ref f)) (b : Binds K fd ["_law_lines_here"] []) (G : Gm K mg) : C8.Cal P w K mg base 1 "_law_book" spBook [] := by
  refine calN F m b sc_law_book (fun vs H Q E h => ?_) (fun cdv A outer s H vs Q E hr h => ?_)
  · obtain ⟨a, xs, R, rfl, _⟩ := h
    rfl
  obtain ⟨a, xs, R, rfl, wf, hxs, ha, q⟩ := h
  refine ⟨_, (pss_cons (ps_set (i := 1) sc_law_book.nd rfl (Or.inl rfl) (pe_disp (pps_cons pe_str (pe_ix ix_tup (pe_ix ix_list (pv 0) pe_int (fun _ _ => rfl)) pe_int (fun _ _ => rfl)) (pps_cons pe_str pe_dnewK pps_nil)) (by rfl) (by rfl) (fun z => by cases z) (by decide))) (pss_cons (ps_for PassesOwn.never rfl (pi_list (pv 0)) (pg_tup rfl (pgs_cons (pg_name (i := 2) sc_law_book.nd rfl (Or.inl rfl)) (pgs_cons (pg_name (i := 3) sc_law_book.nd rfl (Or.inl rfl)) pgs_nil))) (pss_one (ps_dput (hu_of hr) (pe_dget (hu_of hr) (pv 1) pe_str (fun _ _ => rfl)) (pv 2) (pv 3) rfl))) (pss_one (ps_ret (pv 1))))), ?_⟩
  rw [show L2.start Nsc_law_book [.ref a] = [some (.ref a), none, none, none] from rfl]; try simp only [cxK, cxK2, cxP, cxW, cxPn, cxWn]
  have hps := len_pos wf
  have hle : R.ln.length ≤ 8 := by have h := wf.ws.le; rw [ws_len] at h; exact h
  have h0 : xs.length = R.ln.length := hxs.1
  have hnl := wf.len
  -- the pairs
  have pr : ∀ i x, xs[i]? = some x → ∃ la, H x = some (.tup [.str (nmS R i), .ref la]) ∧ ∀ ln, R.ln[i]? = some ln → LnAt No H (nmV R.nm) false la ln := by
    intro i x hx
    have hi := get_lt hx
    obtain ⟨n, hn⟩ := get_some (l := R.nm) (i := i) (by omega)
    obtain ⟨ln, hl⟩ := get_some (l := R.ln) (i := i) (by omega)
    obtain ⟨la, h1, h2⟩ := hxs.2 i x n ln hx hn hl
    refine ⟨la, ?_, fun ln' h => ?_⟩
    · have e : nmS R i = n := getD_of hn
      rw [e]
      exact h1.h
    · rw [hl] at h
      cases h
      exact h2
  obtain ⟨x0, hx0⟩ := get_some (l := xs) (i := 0) (by omega)
  obtain ⟨la0, hp0, _⟩ := pr 0 x0 hx0
  have hv0 : atI (xs.map V.ref) 0 = some (.ref x0) := at_map hx0
  repeat walk_at "s"
  intro bk H1 n1
  have ha1 := n1.up ha
  have hp1 := n1.up hp0
  repeat walk_at "s"
  intro ld H2 n2
  have hb2 := n2.up n1.at_
  repeat walk_at "s"
  refine x_DspA (bkK R ld) (bkK R ld) hb2 rfl (by show 2 ≤ 15; decide) (bkK_m R ld) fun H3 c3 => ?_
  have nbl : bk ≠ ld := (n2.ne n1.at_).symm
  have hld : H3 ld = some (.dK []) := c3.up nbl.symm n2.at_
  have s3 : Same H H3 := Same.chg (n1.same.trans n2.same) n1.fresh c3
  have ha3 := s3 _ _ ha
  have hbn : H bk = none := n1.fresh
  have hln : H ld = none := by
    cases hz : H ld with
    | none => rfl
    | some o => exact absurd (n1.same _ _ hz) (by rw [n2.fresh]; exact nofun)
  have hb3 := c3.at_
  repeat walk_at "s"
  refine x_ForL (SqL.of ha3) (fun j σ H' => ∃ (kvs : List (Key × V)) (x2 x3 : Option V), σ = [some (.ref a), some (.ref bk), x2, x3] ∧ Same H H' ∧ H' bk = some (.dK (bkK R ld)) ∧ H' ld = some (.dK kvs) ∧ kvs.length ≤ j ∧
    ∀ i x, i < j → xs[i]? = some x → ∃ la, H x = some (.tup [.str (nmS R i), .ref la]) ∧ valV kvs (Sum.inr (nmS R i)) = some (.ref la)) ?_ ?_ ?_ ?_
  · exact ⟨[], none, none, rfl, s3, hb3, hld, Nat.le_refl _, fun i x h => absurd h (Nat.not_lt_zero _)⟩
  · rintro i σ H' _ ⟨kvs, x2, x3, rfl, s', _⟩
    exact SqL.of (s' _ _ ha)
  · rintro j x σ H4 hx ⟨kvs, x2, x3, rfl, s4, hb4, hl4, hlen, hall⟩
    obtain ⟨x, hx', rfl⟩ := map_some hx
    obtain ⟨la, g1, g2⟩ := pr j x hx'
    have g4 := s4 _ _ g1
    have hj := get_lt hx'
    repeat walk_at "s"
    refine x_DpA hl4 (by rw [sizeLine_eq]; omega) fun H5 c5 => ?_
    refine ⟨_, _, _, rfl, Same.chg s4 hln c5, c5.up nbl hb4, c5.at_, Nat.le_trans (length_putK ..) (by omega), fun i y hi hy => ?_⟩
    by_cases hij : i = j
    · subst hij
      rw [hx'] at hy
      cases hy
      exact ⟨la, g1, by rw [valV_put, if_pos rfl]⟩
    · obtain ⟨lb, f1, f2⟩ := hall i y (by omega) hy
      refine ⟨lb, f1, ?_⟩
      rw [valV_put, if_neg (fun z => hij (nmS_inj wf (by omega) (by omega) (Sum.inr.inj z)))]
      exact f2
  · rintro σ H4 ⟨kvs, x2, x3, rfl, s4, hb4, hl4, hlen, hall⟩
    repeat walk_at "s"
    refine q bk H4 s4 ⟨ld, kvs, hb4, hl4, fun i ln hl => ?_⟩
    obtain ⟨x, hx⟩ := get_some (l := xs) (i := i) (by have := get_lt hl; omega)
    obtain ⟨la, g1, g2⟩ := hall i x (by rw [List.length_map]; exact get_lt hx) hx
    obtain ⟨lb, f1, f2⟩ := pr i x hx
    rw [g1] at f1
    cases f1
    exact ⟨la, g2, (f2 ln hl).up (Kp.same s4)⟩
end
end
end K21
end

section
set_option maxRecDepth 100000
set_option maxHeartbeats 4000000
namespace K21
open PySem PySem.Spec PyProof.Rows L2
noncomputable section
local macro_rules | `(tactic| walk_at "hp") => `(tactic| first
  | assumption
  | ((with_reducible refine' At.h ?q); (case q => assumption))
  | ((with_reducible refine' New.at_ ?q); (case q => assumption))
  | ((with_reducible refine' Chg.at_ ?q); (case q => assumption))
  | ((with_reducible refine' New.up ?n ?q); (case n => assumption); (case q => walk_at "hp"))
  | ((with_reducible refine' Same.up ?n ?q); (case n => assumption); (case q => walk_at "hp")))
local macro_rules | `(tactic| walk_at "sz") => `(tactic| first | exact Nat.le_of_ble_eq_true rfl | assumption | omega)
local macro_rules | `(tactic| walk_at "i") => `(tactic| first
  | with_reducible refine' x_I0 ?_
  | ((with_reducible refine' x_I ?c ?_); (case c => first | assumption | (show (_ : Int) ≠ 0; omega) | exact .inr ⟨by decide, by decide⟩ | exact .inl ⟨by decide, by decide⟩ | (refine ⟨?_, ?_⟩ <;> first | decide | omega)))
  | with_reducible refine' x_eqI ?_
  | with_reducible refine' x_neI ?_
  | with_reducible refine' x_eqS ?_
  | with_reducible refine' x_neS ?_
  | with_reducible refine' x_isN ?_
  | with_reducible refine' x_notN ?_
  | with_reducible refine' x_U ?_
  | with_reducible refine' x_int ?_
  | with_reducible refine' x_intB ?_
  | with_reducible refine' x_min2 ?_
  | with_reducible refine' x_max2 ?_
  | ((with_reducible refine' x_ixLh ?h ?v ?_); (case h => walk_at "hp"); (case v => first | exact rfl | assumption))
  | ((with_reducible refine' x_ixTh ?h ?v ?_); (case h => walk_at "hp"); (case v => first | exact rfl | assumption))
  | ((with_reducible refine' x_lenL ?h ?_); (case h => walk_at "hp"))
  | ((with_reducible refine' x_lenT ?h ?_); (case h => walk_at "hp"))
  | ((with_reducible refine' x_gtuph ?h ?l ?_); (case h => walk_at "hp"); (case l => exact rfl))
  | ((with_reducible refine' x_BmAh ?h ?_); (case h => walk_at "hp"))
  | ((with_reducible refine' x_BmA0h ?h ?_); (case h => walk_at "hp"))
  | ((with_reducible refine' x_inStr ?h ?_); (case h => walk_at "hp"))
  | ((with_reducible refine' x_ninStr ?h ?_); (case h => walk_at "hp"))
  | ((with_reducible refine' x_inInt ?h ?_); (case h => walk_at "hp"))
  | ((with_reducible refine' x_ninInt ?h ?_); (case h => walk_at "hp"))
  | ((with_reducible refine' x_inL ?h ?f ?g ?_); (case h => walk_at "hp"); (case f => exact rfl); (case g => first | exact rfl | assumption))
  | ((with_reducible refine' x_inT ?h ?f ?g ?_); (case h => walk_at "hp"); (case f => exact rfl); (case g => first | exact rfl | assumption))
  | ((with_reducible refine' x_notInL ?h ?f ?g ?_); (case h => walk_at "hp"); (case f => exact rfl); (case g => first | exact rfl | assumption))
  | ((with_reducible refine' x_setL ?h ?j ?_); (case h => walk_at "hp"); (case j => first | exact rfl | assumption))
  | ((with_reducible refine' x_append ?h ?l ?_); (case h => walk_at "hp"); (case l => walk_at "sz"))
  | ((with_reducible refine' x_neNil ?h ?g ?_); (case h => walk_at "hp"); (case g => walk_at "hp"))
  | ((with_reducible refine' x_eqNil ?h ?g ?_); (case h => walk_at "hp"); (case g => walk_at "hp"))
  | ((with_reducible refine' x_DgA ?h ?v ?_); (case h => walk_at "hp"); (case v => first | exact stK_at _ _ _ | exact bkK_first _ _ | exact bkK_lines _ _ | exact stK_kept _ _ _ | exact stK_left _ _ _ | assumption))
  | ((with_reducible refine' x_DspS ?h ?_); (case h => walk_at "hp"))
  | ((with_reducible refine' x_AlT ?h ?_); (case h => walk_at "sz"))
  | ((with_reducible refine' x_AlL ?h ?_); (case h => walk_at "sz"))
  | ((with_reducible refine' x_Rg1 ?a ?b ?_); (case a => omega); (case b => omega))
  | ((with_reducible refine' x_Rg2 ?a ?b ?c ?d ?_); (case a => omega); (case b => omega); (case c => omega); (case d => omega))
  | with_reducible refine' x_AlO ?_)
local macro_rules | `(tactic| walk_at "s") => `(tactic| first
  | with_reducible refine' x_seq ?_
  | with_reducible refine' x_asg ?_
  | with_reducible refine' x_gname ?_
  | ((with_reducible refine' x_var ?h ?_); (case h => exact rfl))
  | with_reducible refine' x_c ?_
  | with_reducible refine' x_op ?_
  | with_reducible refine' x_cons ?_
  | with_reducible refine' x_nil ?_
  | with_reducible refine' x_cb ?_
  | with_reducible refine' x_ret ?_
  | with_reducible refine' x_ifS ?_
  | with_reducible refine' x_test ?_
  | with_reducible refine' x_B ?_
  | with_reducible refine' x_bl ?_
  | with_reducible refine' x_if ?_
  | with_reducible refine' x_call ?_
  | with_reducible refine' x_tup ?_
  | with_reducible refine' x_lst ?_
  | with_reducible refine' x_gcons ?_
  | with_reducible refine' x_gnil ?_
  | with_reducible refine' x_gsub ?_
  | with_reducible refine' x_next ?_
  | with_reducible refine' x_drop ?_
  | with_reducible refine' x_and ?_
  | with_reducible refine' x_or ?_
  | with_reducible refine' x_not ?_
  | with_reducible refine' x_andV ?_
  | with_reducible refine' x_orV ?_
  | with_reducible refine' x_un ?_
  | with_reducible refine' x_chain ?_
  | with_reducible refine' x_sfld ?_
  | with_reducible refine' x_par ?_
  | with_reducible refine' x_par2 ?_
  | with_reducible refine' x_par3 ?_
  | with_reducible refine' x_par33 ?_
  | with_reducible refine' x_fld ?_
  | with_reducible refine' x_meth ?_
  | with_reducible refine' x_bm ?_
  | with_reducible refine' x_bm0 ?_
  | with_reducible refine' x_forL ?_
  | with_reducible refine' x_forT ?_
  | with_reducible refine' x_forR1 ?_
  | with_reducible refine' x_forR2 ?_
  | with_reducible refine' x_lcL ?_
  | with_reducible refine' x_lcT ?_
  | with_reducible refine' x_lcR1 ?_
  | with_reducible refine' x_lcR2 ?_
  | with_reducible refine' x_dnew ?_
  | with_reducible refine' x_retN ?_
  | with_reducible refine' x_ff ?_
  | with_reducible refine' x_lrg1 ?_
  | with_reducible refine' x_disp ?_
  | with_reducible refine' x_pnil ?_
  | with_reducible refine' x_pcons ?_
  | with_reducible refine' x_dget ?_
  | with_reducible refine' x_dput ?_
  | with_reducible refine' x_dnewN ?_
  | with_reducible refine' x_nin ?_
  | with_reducible refine' x_nget ?_
  | with_reducible refine' x_nput ?_
  | ((with_reducible refine' x_yes ?e ?_); (case e => first | decide +kernel | exact not_int_non _ | exact not_str_non _))
  | ((with_reducible refine' x_no ?e ?_); (case e => first | decide +kernel | exact int_non _ | exact str_non _))
  | with_reducible refine' x_lrg2 ?_
  | with_reducible refine' x_tt ?_
  | with_reducible refine' x_break ?_
  | walk_at "i")

def Nsc_law_events : List Str := ["_law_books", "_law_states", "_law_rest", "_law_cell", "_law_found", "_law_near_here", "_law_at", "_law_what", "_law_done", "_law_state"]
theorem sc_law_events : FnScope Nsc_law_events ["_law_books", "_law_states", "_law_rest", "_law_cell"] (defScope (topS 70)) := ⟨rfl, rfl, rfl, by decide +kernel, rfl, by decide +kernel, by decide +kernel⟩
theorem wdO_non (o : Option Bool) : decide (wdO o = .non) = decide (o = none) := by
  cases o with
  | none => rfl
  | some b =>
    rw [decide_eq_false (p := (some b = none)) (fun z => nomatch z)]
    cases b <;> exact str_non _
theorem x_min {K : PySem.W.Frag} {a : Addr} {xs : List V} {ns : List Int} {H : Hp} {Q : VK} (h : H a = some (.lst xs)) (e : xs = ns.map V.int) (hp : 0 < ns.length) (k : ∀ m, m ∈ ns → (∀ y, y ∈ ns → m ≤ y) → Q (.int m) H) : rMin K [.ref a] H Q := ⟨a, ns, rfl, by rw [← e]; exact SqL.of h, hp, k⟩
/-- what one machine tells, in the heap -/
def EvAt (H : Hp) (R : Rd) (s : St) (cell : Int) (n : Nat) (t : Addr) (w : Option Bool) (d : Nat) (s' : St) : Prop := Evt R.ln cell n s w d s' ∧ ∃ sd, H t = some (.tup [wdO w, .int d, .ref sd]) ∧ H sd = some (stO R s')
theorem EvAt.up {H H' : Hp} {R : Rd} {s : St} {cell : Int} {n : Nat} {t : Addr} {w : Option Bool} {d : Nat} {s' : St} (h : EvAt H R s cell n t w d s') (k : Same H H') : EvAt H' R s cell n t w d s' := by
  obtain ⟨e, sd, h1, h2⟩ := h
  exact ⟨e, sd, k _ _ h1, k _ _ h2⟩
theorem EvAt.chg {H H' : Hp} {D : Addr} {acc : List V} {o : HO} {R : Rd} {s : St} {cell : Int} {n : Nat} {t : Addr} {w : Option Bool} {d : Nat} {s' : St} (h : EvAt H R s cell n t w d s') (hD : H D = some (.lst acc)) (c : Chg H H' D o) : EvAt H' R s cell n t w d s' := by
  obtain ⟨e, sd, h1, h2⟩ := h
  exact ⟨e, sd, c.up (ne_of h1 hD (fun z => nomatch z)) h1, c.up (ne_of h2 hD (fun z => nomatch z)) h2⟩
/-- the list of what is told -/
def wOf (w1 w2 : Option Bool) (i : Nat) : Option Bool := if i = 0 then w1 else w2
def dOf (d1 d2 : Nat) (i : Nat) : Nat := if i = 0 then d1 else d2
theorem near_of {n d1 d2 : Nat} {w1 w2 : Option Bool} {near : Int} (hm : near ∈ (n : Int) :: (((List.range 2).filter fun i => !decide (wOf w1 w2 i = none)).map fun i => (dOf d1 d2 i : Int)))
    (hl : ∀ y, y ∈ (n : Int) :: (((List.range 2).filter fun i => !decide (wOf w1 w2 i = none)).map fun i => (dOf d1 d2 i : Int)) → near ≤ y) : ∃ k : Nat, near = (k : Int) ∧ NearOk n d1 d2 w1 w2 k := by
  have h1 : w1 ≠ none → near ≤ (d1 : Int) := fun hw => hl _ (List.mem_cons_of_mem _ (List.mem_map.mpr ⟨0, List.mem_filter.mpr ⟨by decide, by show (!decide (w1 = none)) = true; rw [decide_eq_false hw] <;> rfl⟩, rfl⟩))
  have h2 : w2 ≠ none → near ≤ (d2 : Int) := fun hw => hl _ (List.mem_cons_of_mem _ (List.mem_map.mpr ⟨1, List.mem_filter.mpr ⟨by decide, by show (!decide (w2 = none)) = true; rw [decide_eq_false hw] <;> rfl⟩, rfl⟩))
  have h0 : near ≤ (n : Int) := hl _ (List.mem_cons_self ..)
  rcases List.mem_cons.mp hm with e | hm
  · exact ⟨n, e, by omega, fun z => by have := h1 z; omega, fun z => by have := h2 z; omega, .inl rfl⟩
  · obtain ⟨i, hi, e⟩ := List.mem_map.mp hm
    obtain ⟨hi, hf⟩ := List.mem_filter.mp hi
    have hi2 : i < 2 := List.mem_range.mp hi
    have hw : wOf w1 w2 i ≠ none := fun z => by rw [z] at hf; exact nomatch hf
    have hcase : i = 0 ∨ i = 1 := by omega
    rcases hcase with rfl | rfl
    · have e : (d1 : Int) = near := e
      exact ⟨d1, e.symm, by omega, fun z => Nat.le_refl _, fun z => by have := h2 z; omega, .inr (.inl ⟨hw, rfl⟩)⟩
    · have e : (d2 : Int) = near := e
      exact ⟨d2, e.symm, by omega, fun z => by have := h1 z; omega, fun z => Nat.le_refl _, .inr (.inr ⟨hw, rfl⟩)⟩
section
variable {P : Program} {w : World} {K : PySem.W.Frag} {mg : Str → Option Value} {base : Heap}
/-- the events of both -/
def spLev : Sp := fun vs H Q _ => ∃ (bl sl b1 b2 a1 a2 : Addr) (R1 R2 : Rd) (s1 s2 : St) (n : Nat) (cell : Int), vs = [.ref bl, .ref sl, .int n, .int cell] ∧ H bl = some (.lst [.ref b1, .ref b2]) ∧ H sl = some (.lst [.ref a1, .ref a2]) ∧
  BookAt H b1 R1 ∧ BookAt H b2 R2 ∧ WF R1 ∧ WF R2 ∧ H a1 = some (stO R1 s1) ∧ H a2 = some (stO R2 s2) ∧ Live R1.ln s1 ∧ Live R2.ln s2 ∧ 0 ≤ cell ∧ cell ≤ 6 ∧ 0 < n ∧ n < 2 ^ 110 ∧
  ∀ (a fl wl t1 t2 : Addr) (w1 w2 : Option Bool) (d1 d2 near : Nat) (s1' s2' : St) (H' : Hp), Same H H' → EvAt H' R1 s1 cell n t1 w1 d1 s1' → EvAt H' R2 s2 cell n t2 w2 d2 s2' → NearOk n d1 d2 w1 w2 near →
    H' fl = some (.lst [.ref t1, .ref t2]) → H' wl = some (.lst [wdO (tell w1 d1 near), wdO (tell w2 d2 near)]) → H' a = some (.tup [.ref fl, .int near, .ref wl]) → Q (.ref a) H'
theorem ok_lev {f : Addr} {fd : FuncData} (F : L2.Fun K "_law_events" "_law_events" (topS 70) f fd) (m : mg "_law_events" = some (.ref f)) (b : Binds K fd ["_law_books", "_law_states", "_law_rest", "_law_cell"] []) (G : Gm K mg) (c__law_ahead : C8.Cal P w K mg base 4 "_law_ahead" spLahead []) : C8.Cal P w K mg base 5 "_law_events" spLev [] := by
  refine calN F m b sc_law_events (fun vs H Q E h => ?_) (fun cdv A outer s H vs Q E hr h => ?_)
  · obtain ⟨bl, sl, b1, b2, a1, a2, R1, R2, s1, s2, n, cell, rfl, _⟩ := h
    rfl
  obtain ⟨bl, sl, b1, b2, a1, a2, R1, R2, s1, s2, n, cell, rfl, hbl, hsl, hb1, hb2, wf1, wf2, ha1, ha2, lv1, lv2, c0, c1, n0, hN, q⟩ := h
  refine ⟨_, (pss_cons (ps_setLc (i := 4) (own := [("_law_at", 6)]) rfl sc_law_events.nd rfl rfl (sw_true rfl rfl rfl (by decide +kernel)) (pi_range1 rfl G.range (pa_cons pe_int pa_nil)) (blkOk_by (own := [("_law_at", 6)]) (N := Nsc_law_events) (sc := defScope (topS 70)) (by decide +kernel)) (fun _ _ _ _ _ => (pg_name (i := 6) sc_law_events.nd rfl (Or.inl rfl))) (fun _ _ _ _ _ => pts_nil) (fun _ _ _ _ _ => (C8.pe_c c__law_ahead hr (by decide) rfl (pa_cons (pe_ix (b_ixL (K := K) rfl) (pv 0) (pv 6) (fun _ _ => rfl)) (pa_cons (pe_ix (b_ixL (K := K) rfl) (pv 1) (pv 6) (fun _ _ => rfl)) (pa_cons (pv 2) (pa_cons (pv 3) pa_nil))))))) (pss_cons (ps_set (i := 5) sc_law_events.nd rfl (Or.inr rfl) (pe_callB (cr_min rfl) (by rfl) G.min (by decide +kernel) (pa_cons (pe_op k_cat (pe_lst (pa_cons (pv 2) pa_nil)) (pe_lc (own := [("_law_what", 7), ("_law_done", 8), ("_law_state", 9)]) rfl sc_law_events.nd (pi_list (pv 4)) (blkOk_by (own := [("_law_what", 7), ("_law_done", 8), ("_law_state", 9)]) (N := Nsc_law_events) (sc := defScope (topS 70)) (by decide +kernel)) (fun _ _ _ _ _ => (b_gtup (K := K) (n := 3) rfl rfl (pgs_cons (pg_name (i := 7) sc_law_events.nd rfl (Or.inl rfl)) (pgs_cons (pg_name (i := 8) sc_law_events.nd rfl (Or.inl rfl)) (pgs_cons (pg_name (i := 9) sc_law_events.nd rfl (Or.inl rfl)) pgs_nil))))) (fun _ _ _ _ _ => pts_one (pt_cmpR op_notN1 (pv 7) pe_non (nomark _))) (fun _ _ _ _ _ => (pv 8)))) pa_nil))) (pss_one (ps_ret (pe_tup (pa_cons (pv 4) (pa_cons (pv 5) (pa_cons (pe_lc (own := [("_law_what", 7), ("_law_done", 8), ("_law_state", 9)]) rfl sc_law_events.nd (pi_list (pv 4)) (blkOk_by (own := [("_law_what", 7), ("_law_done", 8), ("_law_state", 9)]) (N := Nsc_law_events) (sc := defScope (topS 70)) (by decide +kernel)) (fun _ _ _ _ _ => (b_gtup (K := K) (n := 3) rfl rfl (pgs_cons (pg_name (i := 7) sc_law_events.nd rfl (Or.inl rfl)) (pgs_cons (pg_name (i := 8) sc_law_events.nd rfl (Or.inl rfl)) (pgs_cons (pg_name (i := 9) sc_law_events.nd rfl (Or.inl rfl)) pgs_nil))))) (fun _ _ _ _ _ => pts_nil) (fun _ _ _ _ _ => (pe_ifExp (pt_cmpR op_eq (pv 8) (pv 5) (nomark _)) (pv 7) pe_non))) pa_nil)))))))), ?_⟩
  rw [show L2.start Nsc_law_events [.ref bl, .ref sl, .int n, .int cell] = [some (.ref bl), some (.ref sl), some (.int n), some (.int cell), none, none, none, none, none, none] from rfl]; try simp only [cxK, cxK2, cxP, cxW, cxPn, cxWn]
  repeat walk_at "s"
  refine x_LcR (m := 2) (by omega) (fun D i H' => H D = none ∧ Same H H' ∧ ∃ ts : List Addr, H' D = some (.lst (ts.map V.ref)) ∧ ts.length = i ∧ (∀ t, ts[0]? = some t → ∃ w d s', EvAt H' R1 s1 cell n t w d s') ∧ (∀ t, ts[1]? = some t → ∃ w d s', EvAt H' R2 s2 cell n t w d s')) ?_ ?_ ?_
  · intro D H1 n1
    exact ⟨n1.fresh, n1.same, [], n1.at_, rfl, (fun t h => nomatch h), fun t h => nomatch h⟩
  · rintro D i H1 hi ⟨hD, sm, ts, hD1, hts, g1, g2⟩
    have hbl1 := sm _ _ hbl
    have hsl1 := sm _ _ hsl
    have go : ∀ (bb aa : Addr) (R : Rd) (s0 : St), BookAt H bb R → WF R → H aa = some (stO R s0) → Live R.ln s0 → ∀ (QQ : VK), (∀ t w d s' H2, Same H1 H2 → EvAt H2 R s0 cell n t w d s' → QQ (.ref t) H2) → spLahead [.ref bb, .ref aa, .int n, .int cell] H1 QQ C8.E0 := fun bb aa R s0 k1 k2 k3 k4 QQ kk =>
      ⟨bb, aa, R, s0, n, cell, rfl, k1.up sm, k2, sm _ _ k3, k4, c0, c1, hN, fun t sd w d s' H2 z1 z2 z3 z4 => kk t w d s' H2 z1 ⟨z2, sd, z4, z3⟩⟩
    have hcase : i = 0 ∨ i = 1 := by omega
    rcases hcase with rfl | rfl
    · have hts0 : ts = [] := List.length_eq_zero_iff.mp hts
      subst hts0
      repeat walk_at "s"
      refine x_LcY rfl ?_
      repeat walk_at "s"
      refine go b1 a1 R1 s1 hb1 wf1 ha1 lv1 _ fun t w d s' H2 k1 k2 => ?_
      have hD2 := k1 _ _ hD1
      refine x_App hD2 (by rw [sizeLine_eq]; decide) fun H3 c3 => ⟨hD, Same.chg (sm.trans k1) hD c3, [t], c3.at_, rfl, fun u hu => ?_, fun u hu => nomatch hu⟩
      cases hu
      exact ⟨w, d, s', k2.chg hD2 c3⟩
    · obtain ⟨t0, rfl⟩ := List.length_eq_one_iff.mp hts
      obtain ⟨w0, d0, s0', k0⟩ := g1 t0 rfl
      repeat walk_at "s"
      refine x_LcY rfl ?_
      repeat walk_at "s"
      refine go b2 a2 R2 s2 hb2 wf2 ha2 lv2 _ fun t w d s' H2 k1 k2 => ?_
      have hD2 := k1 _ _ hD1
      refine x_App hD2 (by rw [sizeLine_eq]; show 1 < 16777216; decide) fun H3 c3 => ⟨hD, Same.chg (sm.trans k1) hD c3, [t0, t], c3.at_, rfl, fun u hu => ?_, fun u hu => ?_⟩
      · cases hu
        exact ⟨w0, d0, s0', (k0.up k1).chg hD2 c3⟩
      · cases hu
        exact ⟨w, d, s', k2.chg hD2 c3⟩
  · rintro D H1 ⟨hD, sm, ts, hD1, hts, g1, g2⟩
    obtain ⟨t1, t2, rfl⟩ : ∃ t1 t2, ts = [t1, t2] := by
      rcases ts with _ | ⟨x, _ | ⟨y, _ | ⟨z, r⟩⟩⟩
      · exact nomatch hts
      · exact nomatch hts
      · exact ⟨x, y, rfl⟩
      · exact absurd hts (by simp)
    obtain ⟨w1, d1, s1', k1⟩ := g1 t1 rfl
    obtain ⟨w2, d2, s2', k2⟩ := g2 t2 rfl
    have hD1 : H1 D = some (.lst [.ref t1, .ref t2]) := hD1
    have pr : ∀ (i : Nat) x H2, ([V.ref t1, V.ref t2])[i]? = some x → Same H1 H2 → ∃ t sd, x = .ref t ∧ H2 t = some (.tup [wdO (wOf w1 w2 i), .int (dOf d1 d2 i), .ref sd]) := fun i x H2 hx sm2 => by
      rcases i with _ | _ | i
      · cases hx
        obtain ⟨_, sd, f1, _⟩ := k1
        exact ⟨t1, sd, rfl, sm2 _ _ f1⟩
      · cases hx
        obtain ⟨_, sd, f1, _⟩ := k2
        exact ⟨t2, sd, rfl, sm2 _ _ f1⟩
      · exact nomatch hx
    repeat walk_at "s"
    intro rl H2 n2
    have hD2 := n2.up hD1
    repeat walk_at "s"
    refine x_LcLF hD2 (by show 2 < 100000; decide) (fun i => !decide (wOf w1 w2 i = none)) (fun i => .int (dOf d1 d2 i)) ?_ ?_
    · intro i x H3 hx sm3 R3 kR
      obtain ⟨t, sd, rfl, ht⟩ := pr i x H3 hx (n2.same.trans sm3)
      repeat walk_at "s"
      refine kR _ rfl ?_ fun _ H4 s4 Q2 k4 => ?_
      · intro QT kt
        repeat walk_at "s"
        rw [wdO_non]
        exact kt _ (Same.refl _)
      · repeat walk_at "s"
        exact k4 _ (Same.refl _)
    intro E3 H3 n3
    have hr3 := n3.up n2.at_
    have hE3 := n3.at_
    have hD3 := n3.up hD2
    refine x_cat hr3 hE3 (by have := gv_len 2 (fun i => !decide (wOf w1 w2 i = none)) (fun i => V.int (dOf d1 d2 i)); show 1 + (gv 2 _ _).length ≤ _; rw [sizeLine_eq]; omega) fun F4 H4 n4 => ?_
    have hF4 := n4.at_
    have hD4 := n4.up hD3
    repeat walk_at "s"
    refine x_min (ns := (n : Int) :: (((List.range 2).filter fun i => !decide (wOf w1 w2 i = none)).map fun i => (dOf d1 d2 i : Int))) hF4 (by show V.int n :: gv 2 _ _ = V.int n :: List.map V.int (List.map _ _); rw [List.map_map]; rfl) (by show 0 < _ + 1; omega) fun near hm hl => ?_
    obtain ⟨near, rfl, ok⟩ := near_of hm hl
    repeat walk_at "s"
    refine x_LcLF hD4 (by show 2 < 100000; decide) (fun i => true) (fun i => wdO (tell (wOf w1 w2 i) (dOf d1 d2 i) near)) ?_ ?_
    · intro i x H5 hx sm5 R3 kR
      obtain ⟨t, sd, rfl, ht⟩ := pr i x H5 hx ((n2.same.trans n3.same).trans (n4.same.trans sm5))
      repeat walk_at "s"
      refine kR _ rfl EvB.yes fun _ H6 s6 Q2 k6 => ?_
      have k7 := k6 _ (Same.refl _)
      repeat walk_at "s"
      unfold tell at k7
      refine x_ite (fun h => ?_) (fun h => ?_)
      · rw [if_pos (by omega)] at k7
        repeat walk_at "s"
        exact k7
      · rw [if_neg (by omega)] at k7
        repeat walk_at "s"
        exact k7
    intro W5 H5 n5
    have hW5 : H5 W5 = some (.lst [wdO (tell w1 d1 near), wdO (tell w2 d2 near)]) := n5.at_
    repeat walk_at "s"
    intro a H6 n6
    have sm6 : Same H1 H6 := (n2.same.trans n3.same).trans (n4.same.trans (n5.same.trans n6.same))
    exact q a D W5 t1 t2 w1 w2 d1 d2 near s1' s2' H6 (sm.trans sm6) (k1.up sm6) (k2.up sm6) ok (sm6 _ _ hD1) (n6.up hW5) n6.at_
end
end
end K21
end

section
set_option maxRecDepth 100000
set_option maxHeartbeats 4000000
namespace K21
open PySem PySem.Spec PyProof.Rows L2
noncomputable section
section
variable {σ : L2.St} {H : Hp} {Q : VK} {K : PySem.W.Frag}
def wD : Option Bool → PyData
  | none => .none
  | some true => .str "cut"
  | some false => .str "refuse"
theorem dp_w (o : Option Bool) : Dp K H (wdO o) (wD o) := by
  cases o with
  | none => exact .non
  | some b => cases b <;> exact .str _
theorem w_shaped (a b : Option Bool) : SeqAt.shaped (.list [wD a, wD b]) = true := by
  rcases a with _ | _ | _ <;> rcases b with _ | _ | _ <;> decide +kernel
theorem w_eqv (a b c d : Option Bool) : PyData.eqv (.list [wD a, wD b]) (.list [wD c, wD d]) = decide ((a, b) = (c, d)) := by
  rcases a with _ | _ | _ <;> rcases b with _ | _ | _ <;> rcases c with _ | _ | _ <;> rcases d with _ | _ | _ <;> decide +kernel
theorem dp_ws {p : Addr} {a b : Option Bool} (h : H p = some (.lst [wdO a, wdO b])) : Dp K H (.ref p) (.list [wD a, wD b]) := .lst (SqL.of h) (.cons (dp_w a) (.cons (dp_w b) .nil))
theorem x_eqW {p q : Addr} {a b c d : Option Bool} (h : H p = some (.lst [wdO a, wdO b])) (hq : H q = some (.lst [wdO c, wdO d])) (k : Q (.bl (decide ((a, b) = (c, d)))) H) : rEqD K (.ref p) (.ref q) H Q :=
  ⟨_, _, dp_ws h, dp_ws hq, w_shaped a b, w_shaped c d, by rw [w_eqv]; exact k⟩
theorem x_neW {p q : Addr} {a b c d : Option Bool} (h : H p = some (.lst [wdO a, wdO b])) (hq : H q = some (.lst [wdO c, wdO d])) (k : Q (.bl (!decide ((a, b) = (c, d)))) H) : rNeD K (.ref p) (.ref q) H Q :=
  ⟨_, _, dp_ws h, dp_ws hq, w_shaped a b, w_shaped c d, by rw [w_eqv]; exact k⟩
theorem inV_w (a b : Option Bool) : inV (.str "refuse") [wdO a, wdO b] = decide (a = some false ∨ b = some false) := by
  rcases a with _ | _ | _ <;> rcases b with _ | _ | _ <;> decide +kernel
theorem flat_w (a b : Option Bool) : ([wdO a, wdO b]).all flatV = true := by
  rcases a with _ | _ | _ <;> rcases b with _ | _ | _ <;> rfl
theorem x_eqV {x y : V} (h : scal x y = true) (k : Q (.bl (decide (x = y))) H) : rEq x y H Q := ⟨h, k⟩
end
def usN (us : List (Int × Int)) : List (Nat × Int) := us.map fun x => (x.1.toNat, x.2)
def ansV : Option Nat → V
  | none => .non
  | some p => .int p
end
end K21
end

section
set_option maxRecDepth 100000
set_option maxHeartbeats 4000000
namespace K21
open PySem PySem.Spec PyProof.Rows L2
noncomputable section
local macro_rules | `(tactic| walk_at "hp") => `(tactic| first
  | assumption
  | ((with_reducible refine' At.h ?q); (case q => assumption))
  | ((with_reducible refine' New.at_ ?q); (case q => assumption))
  | ((with_reducible refine' Chg.at_ ?q); (case q => assumption))
  | ((with_reducible refine' New.up ?n ?q); (case n => assumption); (case q => walk_at "hp"))
  | ((with_reducible refine' Same.up ?n ?q); (case n => assumption); (case q => walk_at "hp")))
local macro_rules | `(tactic| walk_at "sz") => `(tactic| first | exact Nat.le_of_ble_eq_true rfl | assumption | omega)
local macro_rules | `(tactic| walk_at "i") => `(tactic| first
  | with_reducible refine' x_I0 ?_
  | ((with_reducible refine' x_I ?c ?_); (case c => first | assumption | (show (_ : Int) ≠ 0; omega) | exact .inr ⟨by decide, by decide⟩ | exact .inl ⟨by decide, by decide⟩ | (refine ⟨?_, ?_⟩ <;> first | decide | omega)))
  | with_reducible refine' x_eqI ?_
  | with_reducible refine' x_neI ?_
  | with_reducible refine' x_eqS ?_
  | with_reducible refine' x_neS ?_
  | with_reducible refine' x_isN ?_
  | with_reducible refine' x_notN ?_
  | with_reducible refine' x_U ?_
  | with_reducible refine' x_int ?_
  | with_reducible refine' x_intB ?_
  | with_reducible refine' x_min2 ?_
  | with_reducible refine' x_max2 ?_
  | ((with_reducible refine' x_ixLh ?h ?v ?_); (case h => walk_at "hp"); (case v => first | exact rfl | assumption))
  | ((with_reducible refine' x_ixTh ?h ?v ?_); (case h => walk_at "hp"); (case v => first | exact rfl | assumption))
  | ((with_reducible refine' x_lenL ?h ?_); (case h => walk_at "hp"))
  | ((with_reducible refine' x_lenT ?h ?_); (case h => walk_at "hp"))
  | ((with_reducible refine' x_gtuph ?h ?l ?_); (case h => walk_at "hp"); (case l => exact rfl))
  | ((with_reducible refine' x_BmAh ?h ?_); (case h => walk_at "hp"))
  | ((with_reducible refine' x_BmA0h ?h ?_); (case h => walk_at "hp"))
  | ((with_reducible refine' x_inStr ?h ?_); (case h => walk_at "hp"))
  | ((with_reducible refine' x_ninStr ?h ?_); (case h => walk_at "hp"))
  | ((with_reducible refine' x_inInt ?h ?_); (case h => walk_at "hp"))
  | ((with_reducible refine' x_ninInt ?h ?_); (case h => walk_at "hp"))
  | ((with_reducible refine' x_inL ?h ?f ?g ?_); (case h => walk_at "hp"); (case f => exact rfl); (case g => first | exact rfl | assumption))
  | ((with_reducible refine' x_inT ?h ?f ?g ?_); (case h => walk_at "hp"); (case f => exact rfl); (case g => first | exact rfl | assumption))
  | ((with_reducible refine' x_notInL ?h ?f ?g ?_); (case h => walk_at "hp"); (case f => exact rfl); (case g => first | exact rfl | assumption))
  | ((with_reducible refine' x_setL ?h ?j ?_); (case h => walk_at "hp"); (case j => first | exact rfl | assumption))
  | ((with_reducible refine' x_append ?h ?l ?_); (case h => walk_at "hp"); (case l => walk_at "sz"))
  | ((with_reducible refine' x_neNil ?h ?g ?_); (case h => walk_at "hp"); (case g => walk_at "hp"))
  | ((with_reducible refine' x_eqNil ?h ?g ?_); (case h => walk_at "hp"); (case g => walk_at "hp"))
  | ((with_reducible refine' x_DgA ?h ?v ?_); (case h => walk_at "hp"); (case v => first | exact stK_at _ _ _ | exact bkK_first _ _ | exact bkK_lines _ _ | exact stK_kept _ _ _ | exact stK_left _ _ _ | assumption))
  | ((with_reducible refine' x_DspS ?h ?_); (case h => walk_at "hp"))
  | ((with_reducible refine' x_AlT ?h ?_); (case h => walk_at "sz"))
  | ((with_reducible refine' x_AlL ?h ?_); (case h => walk_at "sz"))
  | ((with_reducible refine' x_Rg1 ?a ?b ?_); (case a => omega); (case b => omega))
  | ((with_reducible refine' x_Rg2 ?a ?b ?c ?d ?_); (case a => omega); (case b => omega); (case c => omega); (case d => omega))
  | with_reducible refine' x_AlO ?_)
local macro_rules | `(tactic| walk_at "s") => `(tactic| first
  | with_reducible refine' x_seq ?_
  | with_reducible refine' x_asg ?_
  | with_reducible refine' x_gname ?_
  | ((with_reducible refine' x_var ?h ?_); (case h => exact rfl))
  | with_reducible refine' x_c ?_
  | with_reducible refine' x_op ?_
  | with_reducible refine' x_cons ?_
  | with_reducible refine' x_nil ?_
  | with_reducible refine' x_cb ?_
  | with_reducible refine' x_ret ?_
  | with_reducible refine' x_ifS ?_
  | with_reducible refine' x_test ?_
  | with_reducible refine' x_B ?_
  | with_reducible refine' x_bl ?_
  | with_reducible refine' x_if ?_
  | with_reducible refine' x_call ?_
  | with_reducible refine' x_tup ?_
  | with_reducible refine' x_lst ?_
  | with_reducible refine' x_gcons ?_
  | with_reducible refine' x_gnil ?_
  | with_reducible refine' x_gsub ?_
  | with_reducible refine' x_next ?_
  | with_reducible refine' x_drop ?_
  | with_reducible refine' x_and ?_
  | with_reducible refine' x_or ?_
  | with_reducible refine' x_not ?_
  | with_reducible refine' x_andV ?_
  | with_reducible refine' x_orV ?_
  | with_reducible refine' x_un ?_
  | with_reducible refine' x_chain ?_
  | with_reducible refine' x_sfld ?_
  | with_reducible refine' x_par ?_
  | with_reducible refine' x_par2 ?_
  | with_reducible refine' x_par3 ?_
  | with_reducible refine' x_par33 ?_
  | with_reducible refine' x_fld ?_
  | with_reducible refine' x_meth ?_
  | with_reducible refine' x_bm ?_
  | with_reducible refine' x_bm0 ?_
  | with_reducible refine' x_forL ?_
  | with_reducible refine' x_forT ?_
  | with_reducible refine' x_forR1 ?_
  | with_reducible refine' x_forR2 ?_
  | with_reducible refine' x_lcL ?_
  | with_reducible refine' x_lcT ?_
  | with_reducible refine' x_lcR1 ?_
  | with_reducible refine' x_lcR2 ?_
  | with_reducible refine' x_dnew ?_
  | with_reducible refine' x_retN ?_
  | with_reducible refine' x_ff ?_
  | with_reducible refine' x_lrg1 ?_
  | with_reducible refine' x_disp ?_
  | with_reducible refine' x_pnil ?_
  | with_reducible refine' x_pcons ?_
  | with_reducible refine' x_dget ?_
  | with_reducible refine' x_dput ?_
  | with_reducible refine' x_dnewN ?_
  | with_reducible refine' x_nin ?_
  | with_reducible refine' x_nget ?_
  | with_reducible refine' x_nput ?_
  | ((with_reducible refine' x_yes ?e ?_); (case e => first | decide +kernel | exact not_int_non _ | exact not_str_non _))
  | ((with_reducible refine' x_no ?e ?_); (case e => first | decide +kernel | exact int_non _ | exact str_non _))
  | with_reducible refine' x_lrg2 ?_
  | with_reducible refine' x_tt ?_
  | with_reducible refine' x_break ?_
  | walk_at "i")

def Nsc_law_part : List Str := ["_law_books", "_law_runs_here", "_law_states", "_law_place", "_law_count", "_law_cell", "_law_rest", "_law_before", "_law_turn", "_law_found", "_law_near_here", "_law_words_here", "_law_whole", "_law_book_here", "_law_what", "_law_done", "_law_state"]
theorem sc_law_part : FnScope Nsc_law_part ["_law_books", "_law_runs_here"] (defScope (topS 71)) := ⟨rfl, rfl, rfl, by decide +kernel, rfl, by decide +kernel, by decide +kernel⟩
theorem drop_get {α : Type} {l : List α} {j : Nat} {x : α} (h : l[j]? = some x) : l.drop j = x :: l.drop (j + 1) := by
  obtain ⟨hj, e⟩ := List.getElem?_eq_some_iff.mp h
  rw [List.drop_eq_getElem_cons hj, e]
/-- the two states -/
def StsAt (H : Hp) (R1 R2 : Rd) (sl : Addr) (S : Two) : Prop := ∃ a1 a2, H sl = some (.lst [.ref a1, .ref a2]) ∧ H a1 = some (stO R1 S.1) ∧ H a2 = some (stO R2 S.2) ∧ Live R1.ln S.1 ∧ Live R2.ln S.2
theorem StsAt.up {H H' : Hp} {R1 R2 : Rd} {sl : Addr} {S : Two} (h : StsAt H R1 R2 sl S) (k : Same H H') : StsAt H' R1 R2 sl S := by
  obtain ⟨a1, a2, h1, h2, h3, h4⟩ := h
  exact ⟨a1, a2, k _ _ h1, k _ _ h2, k _ _ h3, h4⟩
theorem beg_live {R : Rd} (wf : WF R) : Live R.ln (begS R.ln) := by
  obtain ⟨i, h1, h2⟩ := beg_at wf
  exact h2.live (by rw [h1]; exact nofun)
theorem evt_none {R : Rd} (wf : WF R) {cell : Int} {n d near : Nat} {s s' : St} {w : Option Bool} (hc : 0 ≤ cell ∧ cell ≤ 6) (lv : Live R.ln s) (e : Evt R.ln cell n s w d s') (h : tell w d near = none) (hd : d = near) : Live R.ln s' ∧ s' = iter R.ln cell near s := by
  unfold tell at h
  rw [if_pos hd] at h
  subst h hd
  obtain ⟨e1, ⟨_, e2, qt⟩ | ⟨_, _, _, _, _, z⟩⟩ := e
  · subst e2 e1
    exact ⟨qt.live wf hc lv _ (Nat.le_refl _), rfl⟩
  · exact absurd rfl z
theorem whole_rest {rest near : Nat} (h : near ≤ rest) : near + (rest - near) / near * near + (rest - near) % near = rest := by
  have := Nat.div_add_mod (rest - near) near
  rw [Nat.mul_comm] at this
  omega
section
variable {P : Program} {w : World} {K : PySem.W.Frag} {mg : Str → Option Value} {base : Heap}
/-- where the law sees them part -/
def spLpart : Sp := fun vs H Q _ => ∃ (bl rl b1 b2 : Addr) (rs : List Addr) (us : List (Int × Int)) (R1 R2 : Rd), vs = [.ref bl, .ref rl] ∧ H bl = some (.lst [.ref b1, .ref b2]) ∧ BookAt H b1 R1 ∧ BookAt H b2 R2 ∧ WF R1 ∧ WF R2 ∧ H rl = some (.lst (rs.map V.ref)) ∧ RunsAt No H rs us ∧ RunsOk us ∧
  ∀ (H' : Hp), Same H H' → Q (ansV (answer R1 R2 (usN us))) H'
theorem ok_lpart {f : Addr} {fd : FuncData} (F : L2.Fun K "_law_part" "_law_part" (topS 71) f fd) (m : mg "_law_part" = some (.ref f)) (b : Binds K fd ["_law_books", "_law_runs_here"] []) (G : Gm K mg) (c__law_settle : C8.Cal P w K mg base 1 "_law_settle" spLset [])
    (c__law_events : C8.Cal P w K mg base 5 "_law_events" spLev []) : C8.Cal P w K mg base 6 "_law_part" spLpart [] := by
  refine calN F m b sc_law_part (fun vs H Q E h => ?_) (fun cdv A outer s H vs Q E hr h => ?_)
  · obtain ⟨bl, rl, b1, b2, rs, us, R1, R2, rfl, _⟩ := h
    rfl
  obtain ⟨bl, rl, b1, b2, rs, us, R1, R2, rfl, hbl, hb1, hb2, wf1, wf2, hrl, hru, hok, q⟩ := h
  refine ⟨_, (pss_cons (ps_setLc (i := 2) (own := [("_law_book_here", 13)]) rfl sc_law_part.nd rfl rfl (sw_true rfl rfl rfl (by decide +kernel)) (pi_list (pv 0)) (blkOk_by (own := [("_law_book_here", 13)]) (N := Nsc_law_part) (sc := defScope (topS 71)) (by decide +kernel)) (fun _ _ _ _ _ => (pg_name (i := 13) sc_law_part.nd rfl (Or.inl rfl))) (fun _ _ _ _ _ => pts_nil) (fun _ _ _ _ _ => (pe_ix (b_ixT (K := K) rfl) (C8.pe_c c__law_settle hr (by decide) rfl (pa_cons (pv 13) (pa_cons (pe_dget (hu_of hr) (pv 13) pe_str (fun _ _ => rfl)) (pa_cons pe_non pa_nil)))) pe_int (fun _ _ => rfl)))) (pss_cons (ps_set (i := 3) sc_law_part.nd rfl (Or.inl rfl) pe_int) (pss_cons (ps_for PassesOwn.never rfl (pi_list (pv 1)) (pg_tup rfl (pgs_cons (pg_name (i := 4) sc_law_part.nd rfl (Or.inl rfl)) (pgs_cons (pg_name (i := 5) sc_law_part.nd rfl (Or.inl rfl)) pgs_nil))) (pss_cons (ps_set (i := 6) sc_law_part.nd rfl (Or.inl rfl) (pv 4)) (pss_cons (ps_set (i := 7) sc_law_part.nd rfl (Or.inl rfl) pe_int) (pss_one (ps_for PassesOwn.never rfl (pi_range1 rfl G.range (pa_cons pe_int pa_nil)) (pg_name (i := 8) sc_law_part.nd rfl (Or.inl rfl)) (pss_one (ps_if (pt_cmpR op_gt (pv 6) pe_int (nomark _)) (pss_cons (ps_asg (C8.pe_c c__law_events hr (by decide) rfl (pa_cons (pv 0) (pa_cons (pv 2) (pa_cons (pv 6) (pa_cons (pv 5) pa_nil))))) (pg_tup rfl (pgs_cons (pg_name (i := 9) sc_law_part.nd rfl (Or.inl rfl)) (pgs_cons (pg_name (i := 10) sc_law_part.nd rfl (Or.inl rfl)) (pgs_cons (pg_name (i := 11) sc_law_part.nd rfl (Or.inl rfl)) pgs_nil))))) (pss_cons (ps_if (pt_cmpR op_in_seq pe_str (pv 11) (by rfl)) (pss_one (ps_ret pe_non)) pss_nil) (pss_cons (ps_if (PW.pt (pw_and (pt_cmpR (op_neD hr.units) (pv 11) (pe_lst (pa_cons pe_non (pa_cons pe_non pa_nil))) (nomark _)) (pw_and1 (pt_cmpR (op_neD hr.units) (pv 11) (pe_lst (pa_cons pe_str (pa_cons pe_str pa_nil))) (nomark _))))) (pss_one (ps_ret (pe_op op_add (pv 3) (pv 10)))) pss_nil) (pss_cons (ps_setLc (i := 2) (own := [("_law_what", 14), ("_law_done", 15), ("_law_state", 16)]) rfl sc_law_part.nd rfl rfl (sw_true rfl rfl rfl (by decide +kernel)) (pi_list (pv 9)) (blkOk_by (own := [("_law_what", 14), ("_law_done", 15), ("_law_state", 16)]) (N := Nsc_law_part) (sc := defScope (topS 71)) (by decide +kernel)) (fun _ _ _ _ _ => (b_gtup (K := K) (n := 3) rfl rfl (pgs_cons (pg_name (i := 14) sc_law_part.nd rfl (Or.inl rfl)) (pgs_cons (pg_name (i := 15) sc_law_part.nd rfl (Or.inl rfl)) (pgs_cons (pg_name (i := 16) sc_law_part.nd rfl (Or.inl rfl)) pgs_nil))))) (fun _ _ _ _ _ => pts_nil) (fun _ _ _ _ _ => (pv 16))) (pss_cons (ps_set (i := 12) sc_law_part.nd rfl (Or.inl rfl) (pe_ifExp (PW.pt (pw_and (pt_cmpR op_eq (pv 10) (pv 7) (nomark _)) (pw_and1 (pt_cmpR op_eq (pe_ix ix_list (pv 11) pe_int (fun _ _ => rfl)) pe_str (nomark _))))) (pe_op op_add (pv 10) (pe_op op_mulW (pe_op op_fdivW (pe_op op_sub (pv 6) (pv 10)) (pv 10)) (pv 10))) (pv 10))) (pss_cons (ps_set (i := 3) sc_law_part.nd rfl (Or.inl rfl) (pe_op op_add (pv 3) (pv 12))) (pss_cons (ps_set (i := 6) sc_law_part.nd rfl (Or.inl rfl) (pe_op op_sub (pv 6) (pv 12))) (pss_one (ps_set (i := 7) sc_law_part.nd rfl (Or.inl rfl) (pv 10)))))))))) pss_nil))))))) (pss_one (ps_ret pe_non))))), ?_⟩
  rw [show L2.start Nsc_law_part [.ref bl, .ref rl] = [some (.ref bl), some (.ref rl), none, none, none, none, none, none, none, none, none, none, none, none, none, none, none] from rfl]; try simp only [cxK, cxK2, cxP, cxW, cxPn, cxWn]
  obtain ⟨A, hA⟩ : ∃ A, A = answer R1 R2 (usN us) := ⟨_, rfl⟩
  rw [← hA] at q
  obtain ⟨hu8, huv⟩ := hok
  repeat walk_at "s"
  refine x_LcL (SqL.of hbl) (fun D i H' => H D = none ∧ Same H H' ∧ ∃ ts : List Addr, H' D = some (.lst (ts.map V.ref)) ∧ ts.length = i ∧ (∀ t, ts[0]? = some t → H' t = some (stO R1 (begS R1.ln))) ∧ (∀ t, ts[1]? = some t → H' t = some (stO R2 (begS R2.ln)))) ?_ ?_ ?_ ?_
  · intro D H1 n1
    exact ⟨n1.fresh, n1.same, [], n1.at_, rfl, (fun t h => nomatch h), fun t h => nomatch h⟩
  · rintro D i H1 _ ⟨_, sm, _⟩
    exact SqL.of (sm _ _ hbl)
  · rintro D i x H1 hx ⟨hD, sm, ts, hD1, hts, g1, g2⟩
    have go : ∀ (bb : Addr) (R : Rd), BookAt H bb R → WF R → ∀ (QQ : VK), (∀ a sd c H2, Same H1 H2 → H2 sd = some (stO R (begS R.ln)) → H2 a = some (.tup [.ref sd, .bl c]) → QQ (.ref a) H2) → spLset [.ref bb, .str (nmS R 0), .non] H1 QQ C8.E0 := fun bb R k1 k2 QQ kk =>
      ⟨bb, R, 0, none, rfl, k1.up sm, k2, len_pos k2, (fun _ z => nomatch z), fun a sd H2 z1 z2 z3 => kk a sd _ H2 z1 z2 z3⟩
    have hcase : (i = 0 ∧ x = .ref b1) ∨ (i = 1 ∧ x = .ref b2) := by
      rcases i with _ | _ | i
      · cases hx; exact .inl ⟨rfl, rfl⟩
      · cases hx; exact .inr ⟨rfl, rfl⟩
      · exact nomatch hx
    rcases hcase with ⟨rfl, rfl⟩ | ⟨rfl, rfl⟩
    · have hts0 : ts = [] := List.length_eq_zero_iff.mp hts
      subst hts0
      obtain ⟨ld, kvs, k1, _⟩ := hb1.up sm
      repeat walk_at "s"
      refine x_LcY rfl ?_
      repeat walk_at "s"
      refine go b1 R1 hb1 wf1 _ fun a sd c H2 z1 z2 z3 => ?_
      have hD2 := z1 _ _ hD1
      repeat walk_at "s"
      refine x_App hD2 (by rw [sizeLine_eq]; decide) fun H3 c3 => ⟨hD, Same.chg (sm.trans z1) hD c3, [sd], c3.at_, rfl, fun u hu => ?_, fun u hu => nomatch hu⟩
      cases hu
      exact c3.up (ne_of z2 hD2 (fun z => nomatch z)) z2
    · obtain ⟨t0, rfl⟩ := List.length_eq_one_iff.mp hts
      obtain ⟨ld, kvs, k1, _⟩ := hb2.up sm
      repeat walk_at "s"
      refine x_LcY rfl ?_
      repeat walk_at "s"
      refine go b2 R2 hb2 wf2 _ fun a sd c H2 z1 z2 z3 => ?_
      have hD2 := z1 _ _ hD1
      have t02 := z1 _ _ (g1 t0 rfl)
      repeat walk_at "s"
      refine x_App hD2 (by rw [sizeLine_eq]; show 1 < 16777216; decide) fun H3 c3 => ⟨hD, Same.chg (sm.trans z1) hD c3, [t0, sd], c3.at_, rfl, fun u hu => ?_, fun u hu => ?_⟩
      · cases hu
        exact c3.up (ne_of t02 hD2 (fun z => nomatch z)) t02
      · cases hu
        exact c3.up (ne_of z2 hD2 (fun z => nomatch z)) z2
  rintro sl H1 ⟨_, sm1, ts, hD1, hts, g1, g2⟩
  obtain ⟨t1, t2, rfl⟩ : ∃ t1 t2, ts = [t1, t2] := by
    rcases ts with _ | ⟨x, _ | ⟨y, _ | ⟨z, r⟩⟩⟩
    · exact nomatch hts
    · exact nomatch hts
    · exact ⟨x, y, rfl⟩
    · exact absurd hts (by simp)
  have st1 : StsAt H1 R1 R2 sl (begS R1.ln, begS R2.ln) := ⟨t1, t2, hD1, g1 t1 rfl, g2 t2 rfl, beg_live wf1, beg_live wf2⟩
  have hrl1 := sm1 _ _ hrl
  repeat walk_at "s"
  refine x_ForL (SqL.of hrl1) (fun j σ H' => ∃ (sl : Addr) (S : Two) (pl : Nat) (x4 x5 x6 x7 x8 x9 x10 x11 x12 : Option V), σ = [some (.ref bl), some (.ref rl), some (.ref sl), some (.int pl), x4, x5, x6, x7, x8, x9, x10, x11, x12, none, none, none, none] ∧ Same H H' ∧ StsAt H' R1 R2 sl S ∧
    A = part ((scanR R1.ln R2.ln ((usN us).drop j) S).sh pl)) ?_ ?_ ?_ ?_
  · exact ⟨sl, _, 0, none, none, none, none, none, none, none, none, none, rfl, sm1, st1, by rw [hA, Res.sh_zero]; rfl⟩
  · rintro i σ H' _ ⟨_, _, _, _, _, _, _, _, _, _, _, _, _, s', _⟩
    exact SqL.of (s' _ _ hrl)
  · rintro j x σ H2 hx ⟨sl2, S, pl, x4, x5, x6, x7, x8, x9, x10, x11, x12, rfl, sm2, hst, hAns⟩
    obtain ⟨r, hr', rfl⟩ := map_some hx
    obtain ⟨⟨c, cell⟩, hu⟩ := get_some (l := us) (i := j) (by have := get_lt hr'; have := hru.1; omega)
    obtain ⟨u1, u2, c0, c1⟩ := huv _ (List.mem_of_getElem? hu)
    have u1 : 1 ≤ c := u1
    have u2 : c ≤ 10 ^ 30 + 1000 := u2
    obtain ⟨cn, rfl⟩ : ∃ cn : Nat, c = (cn : Int) := ⟨c.toNat, by omega⟩
    have hr2 : H2 r = some (.tup [.int cn, .int cell]) := sm2 _ _ (hru.2 j r _ hr' hu).h
    have hcn : cn < 2 ^ 110 := by omega
    have hun : (usN us)[j]? = some (cn, cell) := by unfold usN; rw [map_get hu] <;> rfl
    rw [drop_get hun] at hAns
    have hAns : A = part (((scan R1.ln R2.ln cell cn S).next cn (scanR R1.ln R2.ln ((usN us).drop (j + 1)))).sh pl) := hAns
    repeat walk_at "s"
    refine x_ForR (m := 6) (by omega) (fun k σ H' => ∃ (sl : Addr) (S : Two) (pl rest before : Nat) (x8 x9 x10 x11 x12 : Option V), σ = [some (.ref bl), some (.ref rl), some (.ref sl), some (.int pl), some (.int cn), some (.int cell), some (.int rest), some (.int before), x8, x9, x10, x11, x12, none, none, none, none] ∧ Same H H' ∧ StsAt H' R1 R2 sl S ∧
      rest ≤ cn ∧ Inn R1.ln R2.ln cell (begS R1.ln, begS R2.ln) k rest before S ∧ A = part (((scan R1.ln R2.ln cell rest S).next rest (scanR R1.ln R2.ln ((usN us).drop (j + 1)))).sh pl)) ?_ ?_ ?_
    · exact ⟨sl2, S, pl, cn, 0, _, _, _, _, _, rfl, sm2, hst, Nat.le_refl _, .inr ⟨Nat.zero_le _, fun _ => rfl, fun z => absurd z (by decide), fun z => absurd z (by decide), fun z => absurd z (by decide)⟩, hAns⟩
    · rintro k σ H3 hk ⟨sl3, S3, pl3, rest, before, x8, x9, x10, x11, x12, rfl, sm3, hst3, hrest, inn, hA3⟩
      repeat walk_at "s"
      refine x_ite (fun hr0 => ?_) (fun hr0 => ?_)
      · have hr0 : 0 < rest := by omega
        obtain ⟨a1, a2, hs1, hs2, hs3, lv1, lv2⟩ := id hst3
        repeat walk_at "s"
        refine ⟨bl, sl3, b1, b2, a1, a2, R1, R2, S3.1, S3.2, rest, cell, rfl, sm3 _ _ hbl, hs1, hb1.up sm3, hb2.up sm3, wf1, wf2, hs2, hs3, lv1, lv2, c0, c1, hr0, by omega, fun a fl wl e1 e2 w1 w2 d1 d2 near s1' s2' H4 sm4 ev1 ev2 hn hfl hwl ha => ?_⟩
        have hfw := flat_w (tell w1 d1 near) (tell w2 d2 near)
        obtain ⟨⟨p1, p2, hT⟩, hnn⟩ := turn_of wf1 wf2 ⟨c0, c1⟩ hr0 (.inr lv1) (.inr lv2) ev1.1 ev2.1 hn
        have sm04 := sm3.trans sm4
        rcases hT with ⟨ht, hnear, hscan⟩ | ⟨ht, hscan, hit⟩ | ⟨ht, hscan⟩
        · obtain ⟨_, sd1, f1, f2⟩ := id ev1
          obtain ⟨_, sd2, g1, g2⟩ := id ev2
          obtain ⟨dd1, dd2⟩ := hnn ht
          have q1 := evt_none wf1 ⟨c0, c1⟩ lv1 ev1.1 (congrArg Prod.fst ht) dd1
          have q2 := evt_none wf2 ⟨c0, c1⟩ lv2 ev2.1 (congrArg Prod.snd ht) dd2
          rw [show tell w1 d1 near = none from congrArg Prod.fst ht, show tell w2 d2 near = none from congrArg Prod.snd ht] at hwl
          have hwl : H4 wl = some (.lst [.non, .non]) := hwl
          repeat walk_at "s"
          intro u1 H5 n5
          refine x_neW (a := none) (b := none) (c := none) (d := none) (n5.up hwl) n5.at_ ?_
          have hwl5 := n5.up hwl
          repeat walk_at "s"
          have SMX : Same H H5 := sm04.trans n5.same
          have hfl4 := n5.up hfl
          refine x_LcLF hfl4 (by show 2 < 100000; decide) (fun _ => true) (fun i => V.ref (if i = 0 then sd1 else sd2)) ?_ ?_
          · intro i x Ha hx sma Ra kR
            have hx2 : ∃ t wO dI, x = .ref t ∧ Ha t = some (.tup [wO, dI, .ref (if i = 0 then sd1 else sd2)]) := by
              rcases i with _ | _ | i
              · cases hx; exact ⟨e1, _, _, rfl, sma _ _ (n5.up f1)⟩
              · cases hx; exact ⟨e2, _, _, rfl, sma _ _ (n5.up g1)⟩
              · exact nomatch hx
            obtain ⟨t, wO, dI, rfl, hta⟩ := hx2
            repeat walk_at "s"
            refine kR _ rfl EvB.yes fun _ Hb sb Qb kb => ?_
            have kb' := kb _ (Same.refl _)
            repeat walk_at "s"
            exact kb'
          intro sl7 H7 n7
          have hsl7 : H7 sl7 = some (.lst [.ref sd1, .ref sd2]) := n7.at_
          have sm7 := SMX.trans n7.same
          have hwl7 := n7.up hwl5
          have fin : ∀ (x8 x9 x10 x11 x12 : Option V), ∃ (sl : Addr) (S : Two) (pl rest' before : Nat) (y8 y9 y10 y11 y12 : Option V), [some (V.ref bl), some (V.ref rl), some (V.ref sl7), some (V.int ((pl3 : Int) + (near : Int))), some (V.int cn), some (V.int cell), some (V.int ((rest : Int) - (near : Int))), some (V.int near), x8, x9, x10, x11, x12, none, none, none, none] = [some (.ref bl), some (.ref rl), some (.ref sl), some (.int pl), some (.int cn), some (.int cell), some (.int rest'), some (.int before), y8, y9, y10, y11, y12, none, none, none, none] ∧ Same H H7 ∧ StsAt H7 R1 R2 sl S ∧
              rest' ≤ cn ∧ Inn R1.ln R2.ln cell (begS R1.ln, begS R2.ln) (k + 1) rest' before S ∧ A = part (((scan R1.ln R2.ln cell rest' S).next rest' (scanR R1.ln R2.ln ((usN us).drop (j + 1)))).sh pl) := fun x8 x9 x10 x11 x12 => by
            refine ⟨sl7, (s1', s2'), pl3 + near, 0, near, x8, x9, x10, x11, x12, ?_, sm7, ⟨sd1, sd2, hsl7, n7.up (n5.up f2), n7.up (n5.up g2), q1.1, q2.1⟩, Nat.zero_le _, .inl rfl, ?_⟩
            · rw [show (rest : Int) - (near : Int) = ((0 : Nat) : Int) by omega]; rfl
            · rw [hA3, ← hnear, hscan]
              have e : iterT R1.ln R2.ln cell near S3 = (s1', s2') := by rw [q1.2, q2.2] <;> rfl
              rw [e]
              show part (((scanR R1.ln R2.ln ((usN us).drop (j + 1)) (s1', s2')).sh near).sh pl3) = part (((scanR R1.ln R2.ln ((usN us).drop (j + 1)) (s1', s2')).sh 0).sh (pl3 + near))
              rw [Res.sh_sh, Res.sh_zero]
          repeat walk_at "s"
          refine x_ite (fun hb => ?_) (fun hb => ?_)
          · repeat walk_at "s"
            refine x_eqV rfl ?_
            repeat walk_at "s"
            exact fin _ _ _ _ _
          · repeat walk_at "s"
            exact fin _ _ _ _ _
        · obtain ⟨_, sd1, f1, f2⟩ := id ev1
          obtain ⟨_, sd2, g1, g2⟩ := id ev2
          have t1 : tell w1 d1 near = some true := congrArg Prod.fst ht
          have t2 : tell w2 d2 near = some true := congrArg Prod.snd ht
          have dd1 := (tell_some (w := w1) (d := d1) (near := near) (by rw [t1]; exact nofun)).1
          have dd2 := (tell_some (w := w2) (d := d2) (near := near) (by rw [t2]; exact nofun)).1
          have q1 : s1' = begS R1.ln := by rw [ev1.1.1, dd1]; exact congrArg Prod.fst hit
          have q2 : s2' = begS R2.ln := by rw [ev2.1.1, dd2]; exact congrArg Prod.snd hit
          subst q1 q2
          have cut := inn.cut hr0 p1 ev1.1 ev2.1 hn ht hscan
          rw [t1, t2] at hwl
          have hwl : H4 wl = some (.lst [.str "cut", .str "cut"]) := hwl
          repeat walk_at "s"
          intro u1 H5 n5
          have hwl5 := n5.up hwl
          refine x_neW (a := some true) (b := some true) (c := none) (d := none) hwl5 n5.at_ ?_
          repeat walk_at "s"
          intro u2 H6 n6
          have hwl6 := n6.up hwl5
          refine x_neW (a := some true) (b := some true) (c := some true) (d := some true) hwl6 n6.at_ ?_
          repeat walk_at "s"
          have SMX : Same H H6 := (sm04.trans n5.same).trans n6.same
          have hfl4 := n6.up (n5.up hfl)
          refine x_LcLF hfl4 (by show 2 < 100000; decide) (fun _ => true) (fun i => V.ref (if i = 0 then sd1 else sd2)) ?_ ?_
          · intro i x Ha hx sma Ra kR
            have hx2 : ∃ t wO dI, x = .ref t ∧ Ha t = some (.tup [wO, dI, .ref (if i = 0 then sd1 else sd2)]) := by
              rcases i with _ | _ | i
              · cases hx; exact ⟨e1, _, _, rfl, sma _ _ (n6.up (n5.up f1))⟩
              · cases hx; exact ⟨e2, _, _, rfl, sma _ _ (n6.up (n5.up g1))⟩
              · exact nomatch hx
            obtain ⟨t, wO, dI, rfl, hta⟩ := hx2
            repeat walk_at "s"
            refine kR _ rfl EvB.yes fun _ Hb sb Qb kb => ?_
            have kb' := kb _ (Same.refl _)
            repeat walk_at "s"
            exact kb'
          intro sl7 H7 n7
          have hsl7 : H7 sl7 = some (.lst [.ref sd1, .ref sd2]) := n7.at_
          have sm7 := SMX.trans n7.same
          have hwl7 := n7.up hwl6
          have st7 : StsAt H7 R1 R2 sl7 (begS R1.ln, begS R2.ln) := ⟨sd1, sd2, hsl7, n7.up (n6.up (n5.up f2)), n7.up (n6.up (n5.up g2)), beg_live wf1, beg_live wf2⟩
          have fin : ∀ (wh rr : Nat) (x8 x9 x10 x11 x12 : Option V), wh + rr = rest → Inn R1.ln R2.ln cell (begS R1.ln, begS R2.ln) (k + 1) rr near (begS R1.ln, begS R2.ln) → scan R1.ln R2.ln cell wh S3 = .go (begS R1.ln, begS R2.ln) →
              ∃ (sl : Addr) (S : Two) (pl rest' before : Nat) (y8 y9 y10 y11 y12 : Option V), [some (V.ref bl), some (V.ref rl), some (V.ref sl7), some (V.int ((pl3 : Int) + (wh : Int))), some (V.int cn), some (V.int cell), some (V.int ((rest : Int) - (wh : Int))), some (V.int near), x8, x9, x10, x11, x12, none, none, none, none] = [some (.ref bl), some (.ref rl), some (.ref sl), some (.int pl), some (.int cn), some (.int cell), some (.int rest'), some (.int before), y8, y9, y10, y11, y12, none, none, none, none] ∧ Same H H7 ∧ StsAt H7 R1 R2 sl S ∧
              rest' ≤ cn ∧ Inn R1.ln R2.ln cell (begS R1.ln, begS R2.ln) (k + 1) rest' before S ∧ A = part (((scan R1.ln R2.ln cell rest' S).next rest' (scanR R1.ln R2.ln ((usN us).drop (j + 1)))).sh pl) := fun wh rr x8 x9 x10 x11 x12 z1 z2 z3 => by
            refine ⟨sl7, (begS R1.ln, begS R2.ln), pl3 + wh, rr, near, x8, x9, x10, x11, x12, ?_, sm7, st7, by omega, z2, ?_⟩
            · rw [show (rest : Int) - (wh : Int) = (rr : Int) by omega]; rfl
            · rw [hA3, ← z1, scan_add, z3]
              show part ((((scan R1.ln R2.ln cell rr (begS R1.ln, begS R2.ln)).sh wh).next (wh + rr) (scanR R1.ln R2.ln ((usN us).drop (j + 1)))).sh pl3) = _
              rw [← Res.sh_next, Res.sh_sh]
          have hwd : CDivW ((rest : Int) - (near : Int)) (near : Int) := wide_div (b := 110) (by omega) (by omega) (by decide) (by decide)
          have edv : ((rest : Int) - (near : Int)) / (near : Int) = (((rest - near) / near : Nat) : Int) := by
            rw [show (rest : Int) - (near : Int) = ((rest - near : Nat) : Int) by omega]; rfl
          have hwm : CMulW (((rest : Int) - (near : Int)) / (near : Int)) (near : Int) := by
            rw [edv]
            have hqn : (rest - near) / near ≤ rest - near := Nat.div_le_self ..
            exact wide_mul (a := 110) (b := 110) (nat_bd (Nat.le_trans hqn (by omega)) hcn) (by omega) (by decide) (by decide) (by decide)
          repeat walk_at "s"
          refine x_ite (fun hb => ?_) (fun hb => ?_)
          · have hb' : near = before := by omega
            obtain ⟨z1, z2⟩ := cut.1 hb'
            repeat walk_at "s"
            rw [show (near : Int) + ((rest : Int) - (near : Int)) / (near : Int) * (near : Int) = ((near + (rest - near) / near * near : Nat) : Int) by rw [edv]; rfl]
            repeat walk_at "s"
            exact fin (near + (rest - near) / near * near) ((rest - near) % near) _ _ _ _ _ (whole_rest p2) z1 z2
          · have hb' : near ≠ before := by omega
            repeat walk_at "s"
            exact fin near (rest - near) _ _ _ _ _ (by omega) (cut.2 hb') hscan
        · have hne1 : ¬ (tell w1 d1 near, tell w2 d2 near) = (none, none) := fun z => by rw [z] at ht; exact nomatch ht
          have hne2 : ¬ (tell w1 d1 near, tell w2 d2 near) = (some true, some true) := fun z => by rw [z] at ht; exact nomatch ht
          rw [scan_stop _ _ hscan p2] at hA3
          repeat walk_at "s"
          rw [inV_w]
          refine x_ite (fun hrf => ?_) (fun hrf => ?_)
          · repeat walk_at "s"
            have e : A = none := hA3.trans (if_pos hrf)
            have := q H4 sm04
            rw [e] at this
            exact this
          · repeat walk_at "s"
            intro u1 H5 n5
            have hwl5 := n5.up hwl
            refine x_neW (c := none) (d := none) hwl5 n5.at_ ?_
            repeat walk_at "s"
            refine x_yes (by rw [decide_eq_false hne1]; rfl) ?_
            repeat walk_at "s"
            intro u2 H6 n6
            refine x_neW (c := some true) (d := some true) (n6.up hwl5) n6.at_ ?_
            repeat walk_at "s"
            refine x_yes (by rw [decide_eq_false hne2]; rfl) ?_
            repeat walk_at "s"
            have e : A = some (pl3 + near) := hA3.trans (if_neg hrf)
            have := q H6 ((sm04.trans n5.same).trans n6.same)
            rw [e] at this
            exact this
      · repeat walk_at "s"
        exact ⟨sl3, S3, pl3, rest, before, _, _, _, _, _, rfl, sm3, hst3, hrest, .inl (by omega), hA3⟩
    · rintro σ H3 ⟨sl3, S3, pl3, rest, before, x8, x9, x10, x11, x12, rfl, sm3, hst3, hrest, inn, hA3⟩
      have := inn.done
      subst this
      exact ⟨sl3, S3, pl3, _, _, _, _, _, _, _, _, _, rfl, sm3, hst3, by rw [hA3]; show part (((scanR R1.ln R2.ln ((usN us).drop (j + 1)) S3).sh 0).sh pl3) = _; rw [Res.sh_zero]⟩
  · rintro σ H2 ⟨sl2, S, pl, x4, x5, x6, x7, x8, x9, x10, x11, x12, rfl, sm2, hst, hAns⟩
    have hd : (usN us).drop (rs.map V.ref).length = [] := by rw [List.drop_eq_nil_iff]; unfold usN; rw [List.length_map, List.length_map, hru.1]; exact Nat.le_refl _
    rw [hd] at hAns
    repeat walk_at "s"
    have e : A = none := hAns
    have := q H2 sm2
    rw [e] at this
    exact this
end
end
end K21
end

section
set_option maxRecDepth 100000
set_option maxHeartbeats 4000000
/-! K8: machines in the heap. -/
namespace K21
open PySem PySem.Spec PyProof.Rows L2
noncomputable section
/-- the words of READING, written once -/
structure Gr (K : PySem.W.Frag) (mg : Str → Option Value) (rd : Addr) : Prop where
  READING : ∃ u, mg "READING" = some u ∧ RelV (.ref rd) u
  seq : ∀ H, SqT K H rd [.str "case", .str "take", .str "rest", .str "cap", .str "jump"]
structure McOk (K : PySem.W.Frag) (CM : Addr) : Prop where
  cls : Cls K CM
  lab : NoAttr K CM "labels"
  lin : NoAttr K CM "lines"
abbrev mcF (lb lt : Addr) : List (Str × V) := [("labels", .ref lb), ("lines", .ref lt)]
theorem mcF_lab (lb lt : Addr) : (mcF lb lt).lookup ("labels" : Str) = some (V.ref lb) := rfl
theorem mcF_lin (lb lt : Addr) : (mcF lb lt).lookup ("lines" : Str) = some (V.ref lt) := rfl
def MachAt (H : Hp) (CM mc : Addr) (R : Rd) : Prop := ∃ (dx lb lt : Addr) (xs : List Addr), H mc = some (.ins CM dx (mcF lb lt)) ∧ H lt = some (.tup (List.map V.ref xs)) ∧ xs.length = R.ln.length ∧ ∀ (i : Nat) (x : Addr) (ln : Ln), xs[i]? = some x → R.ln[i]? = some ln → LnAt No H ixV true x ln
theorem MachAt.up {H H' : Hp} {CM mc : Addr} {R : Rd} (h : MachAt H CM mc R) (s : Same H H') : MachAt H' CM mc R := by
  obtain ⟨dx, lb, lt, xs, h1, h2, h3, h4⟩ := h
  exact ⟨dx, lb, lt, xs, s _ _ h1, s _ _ h2, h3, fun i x ln a b => (h4 i x ln a b).up (Kp.same s)⟩
/-- a state of the program -/
abbrev stP (s : St) : HO := .tup [.int (lnI s.ln), kO s.kept, .int s.left]
section
variable {H : Hp} {Q : VK} {K : PySem.W.Frag} {x : V}
theorem x_inR {p : Addr} {xs : List V} (h : ∀ H, SqT K H p xs) (hx : flatV x = true) (ha : xs.all flatV = true) (k : Q (.bl (inV x xs)) H) : rIn K false x (.ref p) H Q := x_in (.inr (h H)) hx ha k
end
end
end K21
end

section
set_option maxRecDepth 100000
set_option maxHeartbeats 4000000
/-! K9: enumerate(tuple). -/
namespace K21
open PySem PySem.Spec PyProof.Rows L2
open Sem (wp)
set_option maxHeartbeats 1000000 in
theorem meets_enumT {v : Value} {o : Obj} {H : Heap → Prop} (B : Begins v o H) :
    Meets (Builtin.«enumerate.__new__» ⟨[.type "enumerate", v], []⟩) (fun _ R s => H s.heap ∧
      R (.ok (.ret (.ref (s.heap.push o).objs.size))) { s with heap := (s.heap.push o).push { cls := .type "enumerate", data := .fields #[.none, .bool false, .ref s.heap.objs.size, rawInt 0, .none, .none] } }) :=
  .of_wp fun prog w A R s h => by
    obtain ⟨hp, g, d, tk, os⟩ := s; obtain ⟨h1, h⟩ := h
    have hsub := sub_enumerate
    have q1 : ∀ {A' : Around} {E : Value → Shared → Prop} {Q : Value → Shared → Prop}, Q (.ref hp.objs.size) ⟨hp.push o, g, d, tk, os⟩ → wpAny (model prog w) A' (pyIter v) Q E ⟨hp, g, d, tk, os⟩ :=
      fun q => B.iter prog w _ _ ⟨hp, g, d, tk, os⟩ _ h1 q
    wp_walk using q1
    refine wpAny_stack_any fun st => wpAny_pure ?_
    split
    · rename_i c _ _ _ _ _
      cases (c == Value.type "enumerate")
      · wp_walk using q1
        exact ⟨_, rfl, h⟩
      · wp_walk using q1
        exact ⟨_, rfl, h⟩
    · wp_walk using q1
      exact ⟨_, rfl, h⟩
theorem call_enumT {prog : Program} {w : World} {A : Around} {E : Value → Shared → Prop} {s : Shared} {l : Addr} {items : Array Value} {Q : Value → Shared → Prop} (hL : s.heap.IsTuple l items)
    (h : ∀ h', IsEnum h' (s.heap.objs.size + 1) s.heap.objs.size 0 .none → h'.IsTupleIter s.heap.objs.size l 0 → h'.objs.size = s.heap.objs.size + 2 →
      (∀ b o, s.heap.get? b = some o → h'.get? b = some o) → Q (.ref (s.heap.objs.size + 1)) { s with heap := h' }) :
    wpAny (model prog w) A (call (.type "enumerate") [.ref l]) Q E s := by
  refine callType_new F.called_enumerate (by decide) (F.typeCall_enumerate_1 _) (F.newCall_enumerate_1 _) (fun obj => F.args_object_init_2 obj _) F.entry_enumerate_new
    (meets_enumT (begins_tuple l items)) ⟨hL, ?_⟩
  have hz : (s.heap.push { cls := .type "tuple_iterator", data := .fields #[.ref l, .int 0 0] }).objs.size = s.heap.objs.size + 1 := Heap.size_push ..
  show _ ∧ _
  rw [hz]
  have he : IsEnum ((s.heap.push { cls := .type "tuple_iterator", data := .fields #[.ref l, .int 0 0] }).push
      { cls := .type "enumerate", data := .fields #[.none, .bool false, .ref s.heap.objs.size, rawInt 0, .none, .none] }) (s.heap.objs.size + 1) s.heap.objs.size 0 .none := by
    have := Heap.get?_push_size (s.heap.push { cls := .type "tuple_iterator", data := .fields #[.ref l, .int 0 0] })
      (o := { cls := .type "enumerate", data := .fields #[.none, .bool false, .ref s.heap.objs.size, rawInt 0, .none, .none] }) rfl
    rw [hz] at this; exact this
  refine ⟨⟨_, he, rfl⟩, h _ he ⟨_, Heap.get?_push_of_some _ (Heap.get?_push_size _ rfl), rfl, rfl⟩ (by rw [Heap.size_push, hz]) fun b o x => Heap.get?_push_of_some _ (Heap.get?_push_of_some _ x)⟩
theorem enumT_end {prog : Program} {w : World} {A : Around} {E : Value → Shared → Prop} {s : Shared} {e it l : Addr} {i : Nat} {items : Array Value} {old : Value} {Q : Option Value → Shared → Prop} (hh : A.handled = none)
    (he : IsEnum s.heap e it i old) (hit : s.heap.IsTupleIter it l i) (hl : s.heap.IsTuple l items) (hx : items[i]? = none)
    (hQ : ∀ h', Heap.ExtBut it s.heap h' → Q none { s with heap := h' }) : wpAny (model prog w) A (pyNext (.ref e)) Q E s := by
  have hT : s.TypeIs (.ref e) "enumerate" := ⟨_, he, rfl⟩
  unfold pyNext
  refine wpAny_bind (wpAny_attempt (wpAny_callSpecial?_slot (name := Str.ofString "__next__") hT F.slot_enumerate_next
    (wpAny_call_entry F.slot_enumerate_next hT F.entry_enumerate_next ?_ (F.args_enumerate_next_1 _))))
  show wpAny _ _ (field (.ref e) 2 >>= _) _ _ _
  refine wpAny_bind (wpAny_field he rfl (x := .ref it) rfl ?_)
  refine wpAny_bind (wpAny_nextOf_tuple_end hh hit hl hx fun h' x he' hx' => ?_)
  obtain ⟨o, ho, hc⟩ := hx'
  refine wpAny_bind (wpAny_isInstance (T := "StopIteration") (b := true) ⟨o, ho, hc⟩ isSubtype_stop ?_)
  exact wpAny_pure (hQ _ he')
/-- the tuple at a, each item in a new pair -/
def IteT (K : PySem.W.Frag) (a : Addr) : It :=
  ⟨fun i H => ∃ (xs : List V) (x : V), SqT K H a xs ∧ xs[i]? = some x, fun i H v H' => ∃ T x, v = .ref T ∧ H T = none ∧ H' = upd H T (.tup [.int (i : Nat), x]) ∧ ∀ xs, SqT K H a xs → xs[i]? = some x, fun i H => ∃ xs : List V, SqT K H a xs ∧ xs.length ≤ i⟩
theorem turn_enumT {P : Program} {w : World} {K : PySem.W.Frag} {elts : List Expr} {kk : Nat} {tpos : Pos} (a e it : Addr) :
    L2.Turn P w K (.Tuple elts kk tpos) (IteT K a) [e, it] e (fun i h => (∃ old, IsEnum h e it ((i : Nat) : Int) old) ∧ h.IsTupleIter it a i ∧ e ≠ it) where
  mem := by simp
  obj := fun i h st b hb => by
    obtain ⟨⟨old, he⟩, ⟨o, ho, hc, hd⟩, _⟩ := st
    have e' : b = e ∨ b = it := by simpa using hb
    rcases e' with z | z
    · rw [z]; exact ⟨_, he, fun v q => nomatch q⟩
    · rw [z]; exact ⟨o, ho, fun v q => by rw [hd] at q; cases q⟩
  keep := fun i h h' st k => let ⟨⟨old, he⟩, hi, hne⟩ := st; ⟨⟨old, k e (by simp) _ he⟩, hi.at fun o q => k it (by simp) o q, hne⟩
  item := by
    intro X hP hw hK hc i pins s σ H E I hf st hg
    subst hP hw hK
    obtain ⟨⟨old, he⟩, hit, hne⟩ := st
    obtain ⟨xs, x, hq, hx⟩ := hg
    obtain ⟨its, rv, p, hz⟩ := I.tuple hq
    obtain ⟨u, hu, ru⟩ := rv.get hx
    have hel : e < s.heap.objs.size := Heap.lt_size he
    have hil : it < s.heap.objs.size := by obtain ⟨_, q, _⟩ := hit; exact Heap.lt_size q
    have pt : s.heap.IsTuple a its.toArray := p
    have hea : e ≠ a := fun z => by
      obtain ⟨o, ho, hcl, _⟩ := pt
      rw [← z, he] at ho
      rw [← Option.some.inj ho] at hcl
      exact absurd hcl (by simp)
    have hai : a ≠ it := fun z => by
      obtain ⟨o, ho, hcl, _⟩ := pt
      obtain ⟨o2, ho2, hcl2, _⟩ := hit
      rw [z, ho2] at ho
      rw [← Option.some.inj ho] at hcl
      rw [hcl] at hcl2
      exact absurd hcl2 (by simp)
    have hlt : i < its.toArray.size := by rw [List.size_toArray]; exact (List.getElem?_eq_some_iff.mp hu).1
    have hef : e ∉ [it, a] := by simp only [List.mem_cons, List.not_mem_nil, or_false, not_or]; exact ⟨hne, hea⟩
    refine wpAny_pyNext_enum_itemD (D := Draws.tuple (A := X.A.in1) (I.ok.hd hc) it a hai its.toArray) he ⟨hit, pt⟩ hlt hne hef fun x' h' tk hx' ho hit' hT hsz hk => ?_
    have e1 : x' = u := by
      have h1 : its.toArray[i]? = some x' := hx'
      have h2 : its.toArray[i]? = some u := by simpa using hu
      rw [h1] at h2
      exact Option.some.inj h2
    subst e1
    refine ⟨_, rfl, wpAny_letOwnedTupleGo_enum (s := { s with heap := h', toks := tk + 1 }) ho fun h'' he' sb => ?_⟩
    have hT2 : h''.get? s.heap.objs.size = some { cls := .type "tuple", data := .seq #[.int i tk, x'] } := (sb.2 _ (Nat.ne_of_gt hel)).trans hT
    have new : ObjOk X.prog X.w (upd H s.heap.objs.size (.tup [.int (i : Nat), x])) h'' s.heap.objs.size (.tup [.int (i : Nat), x]) :=
      ⟨by show 2 ≤ sizeLine; decide, [.int i tk, x'], .cons ⟨_, rfl⟩ (.cons ru .nil), ⟨_, hT2, rfl, _, rfl⟩⟩
    have I1 : Inv X pins σ (upd H s.heap.objs.size (.tup [.int (i : Nat), x])) { s with heap := h'', toks := tk + 1 } :=
      I.turnedNew (ch := [e, it]) (fun b ob hb q => (sb.2 b (fun z => hb (by simp [z]))).trans (hk b ob (fun z => hb (by simp [z])) (fun z => hb (by simp [z])) q)) hf (Nat.le_refl _) new
    refine ⟨.ref s.heap.objs.size, _, I1, rfl, ⟨_, x, rfl, I.hok.fresh (Nat.le_refl _), rfl, fun ys hy => by rw [I.tuple_inj hy hq]; exact hx⟩, ⟨⟨x', ?_⟩, hit'.1.at fun o q => (sb.2 it (Ne.symm hne)).trans q, hne⟩, fun b hb => ?_⟩
    · have e1 : ((i + 1 : Nat) : Int) = (i : Int) + 1 := by omega
      rw [e1]; exact he'
    · have hb' : b < s.heap.objs.size := by
        have e' : b = e ∨ b = it := by simpa using hb
        rcases e' with z | z
        · rw [z]; exact hel
        · rw [z]; exact hil
      rw [upd_ne (Nat.ne_of_lt hb')]
      exact (hf b hb).1
  done := by
    intro X hP hw hK hc i pins s σ H E I hf st hg
    subst hP hw hK
    obtain ⟨⟨old, he⟩, hit, hne⟩ := st
    obtain ⟨xs, hq, hx⟩ := hg
    obtain ⟨its, rv, p, hz⟩ := I.tuple hq
    obtain ⟨f0, f1, f2, f3, f4, f5⟩ := hf it (by simp)
    have hl := rv.length
    have pt : s.heap.IsTuple a its.toArray := p
    have hai : a ≠ it := fun z => by
      obtain ⟨o, ho, hcl, _⟩ := pt
      obtain ⟨o2, ho2, hcl2, _⟩ := hit
      rw [z, ho2] at ho
      rw [← Option.some.inj ho] at hcl
      rw [hcl] at hcl2
      exact absurd hcl2 (by simp)
    have fin : ∀ (j : Nat), j = i → its.length ≤ j → wpAny (model X.prog X.w) X.A (pyNext (.ref e)) (fun r s1 => r = none ∧ Inv X pins σ H s1) E s := fun j hj hjl => by
      have hh : X.A.handled = none := I.ok.hd hc
      refine enumT_end hh he hit pt (by simp; omega) fun h' eb => ⟨rfl, I.turned (t' := s.toks) (fun b o hb q => eb b o hb q) f0 f1 f3 f4 f5⟩
    exact fin i rfl (by omega)
  self := fun A i s Q E st h => let ⟨⟨_, he⟩, _⟩ := st; wpAny_pyIter_enum he h
def iEnumT (K : PySem.W.Frag) (ta : TA) : TI := fun σ H R => ta σ H fun vs H1 => ∃ a xs, vs = [.ref a] ∧ SqT K H1 a xs ∧ R (IteT K a) H1
theorem k_enumT {X : Cx} {e : Expr} {ta : TA} {p pos tpos : Pos} {elts : List Expr} {kk : Nat} (hg : Gl X "enumerate") (hm : X.mg "enumerate" = none) (ha : PA X [e] ta) (hs : starEach [e] X.env = [(false, eval e X.env)] := by rfl) :
    PI X (.Tuple elts kk tpos) (.Call (.Name "enumerate" p) [e] [] pos) (iEnumT X.K ta) := by
  refine ⟨fun pins s σ H R I h => ?_⟩
  refine Call_ (ld_blt I hg hm boot_enumerate (PyProof.Rows.callWith_type1 (thn (ha.run pos pins s σ H _ I h) fun us s1 ⟨vs, H1, I1, r1, q1⟩ => ?_) hs rfl))
  obtain ⟨a, xs, ex, hq, q⟩ := q1
  subst ex
  cases r1 with
  | cons r rr =>
    cases rr
    cases r
    obtain ⟨its, rv, p', hz⟩ := I1.tuple hq
    refine call_enumT (show s1.heap.IsTuple a its.toArray from p') fun h' he hit hsz hk => wpAny_pyIter_enum he ?_
    have I2 : Inv X pins σ H1 { s1 with heap := h' } := I1.kept (t' := s1.toks) hk
    refine ⟨s1.heap.objs.size + 1, [s1.heap.objs.size + 1, s1.heap.objs.size], _, _, H1, rfl, I2, turn_enumT a (s1.heap.objs.size + 1) s1.heap.objs.size, ⟨⟨.none, he⟩, hit, Nat.succ_ne_self _⟩, fun b hb => ?_, q⟩
    have e' : b = s1.heap.objs.size + 1 ∨ b = s1.heap.objs.size := by simpa using hb
    have hle : s1.heap.objs.size ≤ b := by
      rcases e' with z | z
      · rw [z]; exact Nat.le_add_right _ _
      · rw [z]; exact Nat.le_refl _
    exact I1.fpOk hle (I1.hok.fresh hle)
end K21
end

section
set_option maxRecDepth 100000
set_option maxHeartbeats 4000000
/-! K10: loops over enumerate. -/
namespace K21
open PySem PySem.Spec PyProof.Rows L2
section
variable {σ : L2.St} {H : Hp} {Q : VK} {taa : TA} {K : PySem.W.Frag} {g : TG} {ts : TS} {n b c : L2.St → Hp → Prop} {rt : VK} {D : Ends}
def WalkA (J : It) (g : TG) (tb : TS) (D : Ends) (σ : L2.St) (H1 : Hp) : Prop := ∃ W : Nat → Nat → L2.St → Hp → Prop, (∃ m, W 0 m σ H1) ∧ ∀ i m σ H, W i m σ H →
  (J.stop i H ∧ D.nx σ H) ∨ (J.go i H ∧ ∃ N : L2.St → Hp → Prop, (∀ σ' H', N σ' H' → ∃ m', m' < m ∧ W (i + 1) m' σ' H') ∧ ∀ x H', J.yld i H x H' → g x σ H' fun σ2 H2 => tb { D with nx := N, ct := N, bk := D.nx } σ2 H2)
def ForET (K : PySem.W.Frag) (g : TG) (tb : TS) (D : Ends) (σ : L2.St) (vs : List V) (H1 : Hp) : Prop := ∃ a xs, vs = [V.ref a] ∧ SqT K H1 a xs ∧ WalkA (IteT K a) g tb D σ H1
def ForEL (K : PySem.W.Frag) (g : TG) (tb : TS) (D : Ends) (σ : L2.St) (vs : List V) (H1 : Hp) : Prop := ∃ a xs, vs = [V.ref a] ∧ SqL K H1 a xs ∧ WalkA (Ite K a) g tb D σ H1
theorem x_forET (k : taa σ H fun vs H1 => ForET K g ts D σ vs H1) : tFor (iEnumT K taa) g ts D σ H := k
theorem x_forEL (k : taa σ H fun vs H1 => ForEL K g ts D σ vs H1) : tFor (iEnum K taa) g ts D σ H := k
theorem walk_enumT {a : Addr} {xs : List V} : Walk (IteT K a) xs.length (fun H => SqT K H a xs) (YPair (fun i => some (.int (i : Nat))) (fun i => xs[i]?)) := by
  refine ⟨fun i _ hi q => ⟨xs, xs[i], q, by simp [hi]⟩, fun _ q => ⟨xs, q, Nat.le_refl _⟩, fun i H v H' _ q y => ?_⟩
  obtain ⟨T, x, h1, h2, h3, h4⟩ := y
  exact ⟨T, .int (i : Nat), x, h1, h2, h3, rfl, h4 xs q⟩
theorem x_ForET {a : Addr} {xs : List V} (h : SqT K H a xs) (Pv : Nat → L2.St → Hp → Prop) (h0 : Pv 0 σ H) (hl : ∀ i σ H, i ≤ xs.length → Pv i σ H → SqT K H a xs)
    (hs : ∀ (i : Nat) x σ H H' T, xs[i]? = some x → Pv i σ H → New H H' T (.tup [.int i, x]) → g (.ref T) σ H' fun σ2 H2 => ts ⟨Pv (i + 1), rt, n, Pv (i + 1)⟩ σ2 H2) (hd : ∀ σ H, Pv xs.length σ H → n σ H) : ForET K g ts ⟨n, rt, b, c⟩ σ [.ref a] H :=
  ⟨a, xs, rfl, h, for_it (D := ⟨n, rt, b, c⟩) walk_enumT Pv h0 hl (fun i v σ H H' hi p y => by
    obtain ⟨T, x, z, rfl, h2, rfl, h4, h5⟩ := y
    cases h4
    exact hs i z σ H _ T h5 p (New.of h2)) hd⟩
theorem x_ForEL {a : Addr} {xs : List V} (h : SqL K H a xs) (Pv : Nat → L2.St → Hp → Prop) (h0 : Pv 0 σ H) (hl : ∀ i σ H, i ≤ xs.length → Pv i σ H → SqL K H a xs)
    (hs : ∀ (i : Nat) x σ H H' T, xs[i]? = some x → Pv i σ H → New H H' T (.tup [.int i, x]) → g (.ref T) σ H' fun σ2 H2 => ts ⟨Pv (i + 1), rt, n, Pv (i + 1)⟩ σ2 H2) (hd : ∀ σ H, Pv xs.length σ H → n σ H) : ForEL K g ts ⟨n, rt, b, c⟩ σ [.ref a] H :=
  ⟨a, xs, rfl, h, for_it (D := ⟨n, rt, b, c⟩) walk_enum Pv h0 hl (fun i v σ H H' hi p y => by
    obtain ⟨T, x, z, rfl, h2, rfl, h4, h5⟩ := y
    cases h4
    exact hs i z σ H _ T h5 p (New.of h2)) hd⟩
end
end K21
end

section
set_option maxRecDepth 100000
set_option maxHeartbeats 4000000
namespace K21
open PySem PySem.Spec PyProof.Rows L2
noncomputable section
local macro_rules | `(tactic| walk_at "hp") => `(tactic| first
  | assumption
  | ((with_reducible refine' At.h ?q); (case q => assumption))
  | ((with_reducible refine' New.at_ ?q); (case q => assumption))
  | ((with_reducible refine' Chg.at_ ?q); (case q => assumption))
  | ((with_reducible refine' New.up ?n ?q); (case n => assumption); (case q => walk_at "hp"))
  | ((with_reducible refine' Same.up ?n ?q); (case n => assumption); (case q => walk_at "hp")))
local macro_rules | `(tactic| walk_at "sz") => `(tactic| first | exact Nat.le_of_ble_eq_true rfl | assumption | omega)
local macro_rules | `(tactic| walk_at "i") => `(tactic| first
  | with_reducible refine' x_I0 ?_
  | ((with_reducible refine' x_I ?c ?_); (case c => first | assumption | (show (_ : Int) ≠ 0; omega) | exact .inr ⟨by decide, by decide⟩ | exact .inl ⟨by decide, by decide⟩ | (refine ⟨?_, ?_⟩ <;> first | decide | omega)))
  | with_reducible refine' x_eqI ?_
  | with_reducible refine' x_neI ?_
  | with_reducible refine' x_eqS ?_
  | with_reducible refine' x_neS ?_
  | with_reducible refine' x_isN ?_
  | with_reducible refine' x_notN ?_
  | with_reducible refine' x_U ?_
  | with_reducible refine' x_int ?_
  | with_reducible refine' x_intB ?_
  | with_reducible refine' x_min2 ?_
  | with_reducible refine' x_max2 ?_
  | ((with_reducible refine' x_ixLh ?h ?v ?_); (case h => walk_at "hp"); (case v => first | exact rfl | assumption))
  | ((with_reducible refine' x_ixTh ?h ?v ?_); (case h => walk_at "hp"); (case v => first | exact rfl | assumption))
  | ((with_reducible refine' x_lenL ?h ?_); (case h => walk_at "hp"))
  | ((with_reducible refine' x_lenT ?h ?_); (case h => walk_at "hp"))
  | ((with_reducible refine' x_gtuph ?h ?l ?_); (case h => walk_at "hp"); (case l => exact rfl))
  | ((with_reducible refine' x_BmAh ?h ?_); (case h => walk_at "hp"))
  | ((with_reducible refine' x_BmA0h ?h ?_); (case h => walk_at "hp"))
  | ((with_reducible refine' x_inStr ?h ?_); (case h => walk_at "hp"))
  | ((with_reducible refine' x_ninStr ?h ?_); (case h => walk_at "hp"))
  | ((with_reducible refine' x_inInt ?h ?_); (case h => walk_at "hp"))
  | ((with_reducible refine' x_ninInt ?h ?_); (case h => walk_at "hp"))
  | ((with_reducible refine' x_inL ?h ?f ?g ?_); (case h => walk_at "hp"); (case f => exact rfl); (case g => first | exact rfl | assumption))
  | ((with_reducible refine' x_inR ?h ?f ?g ?_); (case h => assumption); (case f => exact rfl); (case g => exact rfl))
  | ((with_reducible refine' x_inT ?h ?f ?g ?_); (case h => walk_at "hp"); (case f => exact rfl); (case g => first | exact rfl | assumption))
  | ((with_reducible refine' x_notInL ?h ?f ?g ?_); (case h => walk_at "hp"); (case f => exact rfl); (case g => first | exact rfl | assumption))
  | ((with_reducible refine' x_setL ?h ?j ?_); (case h => walk_at "hp"); (case j => first | exact rfl | assumption))
  | ((with_reducible refine' x_append ?h ?l ?_); (case h => walk_at "hp"); (case l => walk_at "sz"))
  | ((with_reducible refine' x_neNil ?h ?g ?_); (case h => walk_at "hp"); (case g => walk_at "hp"))
  | ((with_reducible refine' x_eqNil ?h ?g ?_); (case h => walk_at "hp"); (case g => walk_at "hp"))
  | ((with_reducible refine' x_DgA ?h ?v ?_); (case h => walk_at "hp"); (case v => first | exact stK_at _ _ _ | exact bkK_first _ _ | exact bkK_lines _ _ | exact stK_kept _ _ _ | exact stK_left _ _ _ | assumption))
  | ((with_reducible refine' x_FldA ?h ?c ?n ?l ?_); (case h => walk_at "hp"); (case c => assumption); (case n => assumption); (case l => first | exact rfl | assumption))
  | ((with_reducible refine' x_DspS ?h ?_); (case h => walk_at "hp"))
  | ((with_reducible refine' x_AlT ?h ?_); (case h => walk_at "sz"))
  | ((with_reducible refine' x_AlL ?h ?_); (case h => walk_at "sz"))
  | ((with_reducible refine' x_Rg1 ?a ?b ?_); (case a => omega); (case b => omega))
  | ((with_reducible refine' x_Rg2 ?a ?b ?c ?d ?_); (case a => omega); (case b => omega); (case c => omega); (case d => omega))
  | with_reducible refine' x_AlO ?_)
local macro_rules | `(tactic| walk_at "s") => `(tactic| first
  | with_reducible refine' x_seq ?_
  | with_reducible refine' x_asg ?_
  | with_reducible refine' x_gname ?_
  | ((with_reducible refine' x_var ?h ?_); (case h => exact rfl))
  | with_reducible refine' x_c ?_
  | with_reducible refine' x_op ?_
  | with_reducible refine' x_cons ?_
  | with_reducible refine' x_nil ?_
  | with_reducible refine' x_cb ?_
  | with_reducible refine' x_ret ?_
  | with_reducible refine' x_ifS ?_
  | with_reducible refine' x_test ?_
  | with_reducible refine' x_B ?_
  | with_reducible refine' x_bl ?_
  | with_reducible refine' x_if ?_
  | with_reducible refine' x_call ?_
  | with_reducible refine' x_tup ?_
  | with_reducible refine' x_lst ?_
  | with_reducible refine' x_gcons ?_
  | with_reducible refine' x_gnil ?_
  | with_reducible refine' x_gsub ?_
  | with_reducible refine' x_next ?_
  | with_reducible refine' x_drop ?_
  | with_reducible refine' x_and ?_
  | with_reducible refine' x_or ?_
  | with_reducible refine' x_not ?_
  | with_reducible refine' x_andV ?_
  | with_reducible refine' x_orV ?_
  | with_reducible refine' x_un ?_
  | with_reducible refine' x_chain ?_
  | with_reducible refine' x_sfld ?_
  | with_reducible refine' x_par ?_
  | with_reducible refine' x_par2 ?_
  | with_reducible refine' x_par3 ?_
  | with_reducible refine' x_par33 ?_
  | with_reducible refine' x_fld ?_
  | with_reducible refine' x_meth ?_
  | with_reducible refine' x_bm ?_
  | with_reducible refine' x_bm0 ?_
  | with_reducible refine' x_forL ?_
  | with_reducible refine' x_forT ?_
  | with_reducible refine' x_forR1 ?_
  | with_reducible refine' x_forR2 ?_
  | with_reducible refine' x_lcL ?_
  | with_reducible refine' x_lcT ?_
  | with_reducible refine' x_lcR1 ?_
  | with_reducible refine' x_lcR2 ?_
  | with_reducible refine' x_dnew ?_
  | with_reducible refine' x_retN ?_
  | with_reducible refine' x_ff ?_
  | with_reducible refine' x_lrg1 ?_
  | with_reducible refine' x_disp ?_
  | with_reducible refine' x_pnil ?_
  | with_reducible refine' x_pcons ?_
  | with_reducible refine' x_dget ?_
  | with_reducible refine' x_dput ?_
  | with_reducible refine' x_dnewN ?_
  | with_reducible refine' x_nin ?_
  | with_reducible refine' x_nget ?_
  | with_reducible refine' x_nput ?_
  | ((with_reducible refine' x_yes ?e ?_); (case e => first | decide +kernel | exact not_int_non _ | exact not_str_non _))
  | ((with_reducible refine' x_no ?e ?_); (case e => first | decide +kernel | exact int_non _ | exact str_non _))
  | with_reducible refine' x_lrg2 ?_
  | with_reducible refine' x_tt ?_
  | with_reducible refine' x_break ?_
  | walk_at "i")

def Nscsettle : List Str := ["machine", "line", "kept", "is_cut", "parts", "word", "many"]
theorem scsettle : FnScope Nscsettle ["machine", "line", "kept"] (defScope (topS 33)) := ⟨rfl, rfl, rfl, by decide +kernel, rfl, by decide +kernel, by decide +kernel⟩
section
variable {P : Program} {w : World} {K : PySem.W.Frag} {mg : Str → Option Value} {base : Heap} {CM rd : Addr}
/-- settling in the program -/
def spPset (CM : Addr) : Sp := fun vs H Q _ => ∃ (mc : Addr) (R : Rd) (i : Nat) (k : Option Int), vs = [.ref mc, .int i, kO k] ∧ MachAt H CM mc R ∧ WF R ∧ i < R.ln.length ∧ KOk k ∧
  ∀ (a sd : Addr) (H' : Hp), Same H H' → H' sd = some (stP (settleS R.ln i k).1) → H' a = some (.tup [.ref sd, .bl (settleS R.ln i k).2]) → Q (.ref a) H'
theorem ok_pset {f : Addr} {fd : FuncData} (F : L2.Fun K "settle" "settle" (topS 33) f fd) (m : mg "settle" = some (.ref f)) (b : Binds K fd ["machine", "line", "kept"] []) (G : Gm K mg) (GR : Gr K mg rd) (CMok : McOk K CM) : C8.Cal P w K mg base 1 "settle" (spPset CM) [] := by
  refine calN F m b scsettle (fun vs H Q E h => ?_) (fun cdv A outer s H vs Q E hr h => ?_)
  · obtain ⟨mc, R, i, k, rfl, _⟩ := h
    rfl
  obtain ⟨mc, R, i, k, rfl, hmc, wf, hi, hk, q⟩ := h
  refine ⟨_, (pss_cons (ps_set (i := 3) scsettle.nd rfl (Or.inl rfl) pe_bl) (pss_cons (ps_while PassesOwn.never (pt_cmpR op_ge (pv 1) pe_int (nomark _)) (pss_cons (ps_set (i := 4) scsettle.nd rfl (Or.inl rfl) (pe_ix ix_tup (pe_fld (pv 0) rfl) (pv 1) (fun _ _ => rfl))) (pss_cons (ps_set (i := 5) scsettle.nd rfl (Or.inl rfl) (pe_ix ix_tup (pv 4) pe_int (fun _ _ => rfl))) (pss_cons (ps_if (pt_cmpR op_in_seq (pv 5) (C8.pe_gc rfl GR.READING) (by rfl)) (pss_one (ps_ret (pe_tup (pa_cons (pe_tup (pa_cons (pv 1) (pa_cons (pv 2) (pa_cons (pe_ifExp (pt_cmpR op_eq (pv 5) pe_str (nomark _)) (pe_ix ix_tup (pv 4) pe_int (fun _ _ => rfl)) pe_int) pa_nil)))) (pa_cons (pv 3) pa_nil))))) pss_nil) (pss_one (ps_if (pt_cmpR op_eq (pv 5) pe_str (nomark _)) (pss_cons (ps_set (i := 6) scsettle.nd rfl (Or.inl rfl) (pe_ifExp (pt_cmpR op_isN1 (pv 2) pe_non (nomark _)) (pe_un un_neg pe_int) (pe_op op_add (pv 2) (pe_ix ix_tup (pv 4) pe_int (fun _ _ => rfl))))) (pss_cons (ps_if (pt_cmpR op_gt (pv 6) pe_int (nomark _)) (pss_one (ps_ret (pe_tup (pa_cons (pe_tup (pa_cons (pv 1) (pa_cons pe_non (pa_cons (pv 6) pa_nil)))) (pa_cons (pv 3) pa_nil))))) pss_nil) (pss_cons (ps_set (i := 1) scsettle.nd rfl (Or.inl rfl) (pe_ifExp (pt_cmpR op_eq (pv 6) pe_int (nomark _)) (pe_ix ix_tup (pv 4) pe_int (fun _ _ => rfl)) (pe_un un_neg pe_int))) (pss_one (ps_set (i := 2) scsettle.nd rfl (Or.inl rfl) pe_non))))) (pss_one (ps_if (pt_cmpR op_eq (pv 5) pe_str (nomark _)) (pss_one (ps_par (i := 1) (j := 2) rfl scsettle.nd rfl rfl (by decide) rfl rfl (pa_cons (pe_ix ix_tup (pv 4) pe_int (fun _ _ => rfl)) (pa_cons (pe_ix ix_tup (pv 4) pe_int (fun _ _ => rfl)) pa_nil)) (by rfl))) (pss_one (ps_if (pt_cmpR op_eq (pv 5) pe_str (nomark _)) (pss_one (ps_set (i := 1) scsettle.nd rfl (Or.inl rfl) (pe_ifExp (PW.pt (pw_and (pt_cmpR op_notN1 (pv 2) pe_non (nomark _)) (pw_and1 (pt_cmpR op_le (pv 2) (pe_ix ix_tup (pv 4) pe_int (fun _ _ => rfl)) (nomark _))))) (pe_ix ix_tup (pv 4) pe_int (fun _ _ => rfl)) (pe_ix ix_tup (pv 4) pe_int (fun _ _ => rfl))))) (pss_one (ps_if (pt_cmpR op_eq (pv 5) pe_str (nomark _)) (pss_one (ps_asg (pe_tup (pa_cons pe_int (pa_cons pe_non (pa_cons pe_bl pa_nil)))) (pg_tup rfl (pgs_cons (pg_name (i := 1) scsettle.nd rfl (Or.inl rfl)) (pgs_cons (pg_name (i := 2) scsettle.nd rfl (Or.inl rfl)) (pgs_cons (pg_name (i := 3) scsettle.nd rfl (Or.inl rfl)) pgs_nil)))))) (pss_one (ps_set (i := 1) scsettle.nd rfl (Or.inl rfl) (pe_un un_neg pe_int))))))))))))))) (pss_one (ps_ret (pe_tup (pa_cons (pe_tup (pa_cons (pe_un un_neg pe_int) (pa_cons pe_non (pa_cons pe_int pa_nil)))) (pa_cons (pv 3) pa_nil))))))), ?_⟩
  rw [show L2.start Nscsettle [.ref mc, .int i, kO k] = [some (.ref mc), some (.int i), some (kO k), none, none, none, none] from rfl]; try simp only [cxK, cxK2, cxP, cxW, cxPn, cxWn]
  have hrd := GR.seq
  obtain ⟨cm1, cm2, cm3⟩ := CMok
  have all := (settle_all wf hi hk).1
  repeat walk_at "s"
  refine x_while (fun m σ H' => ∃ (k' : Option Int) (c : Bool) (x4 x5 x6 : Option V), Same H H' ∧ ((∃ i' : Nat, σ = [some (.ref mc), some (.int i'), some (kO k'), some (.bl c), x4, x5, x6] ∧ ∃ s d, settleO R.ln m i' k' = some (s, d) ∧ settleS R.ln i k = (s, c || d)) ∨
    (σ = [some (.ref mc), some (.int (-1)), some (kO k'), some (.bl c), x4, x5, x6] ∧ settleS R.ln i k = (gone, c)))) 30 ?_ ?_
  · exact ⟨k, false, none, none, none, Same.refl _, .inl ⟨i, rfl, _, _, all, by rfl⟩⟩
  · rintro mm σ H1 ⟨k', c, x4, x5, x6, s1, ⟨i', rfl, s, d, hs, hz⟩ | ⟨rfl, hz⟩⟩
    · obtain ⟨n, rfl⟩ : ∃ n, mm = n + 1 := by
        cases mm with
        | zero => exact nomatch hs
        | succ n => exact ⟨n, rfl⟩
      have hl : ∃ l, R.ln[i']? = some l := by
        cases e : R.ln[i']? with
        | some l => exact ⟨l, rfl⟩
        | none =>
          have h : (match R.ln[i']? with | none => none | some l => _) = some (s, d) := hs
          rw [e] at h
          exact nomatch h
      obtain ⟨l, hl⟩ := hl
      obtain ⟨dx, lb, lt, xs, b1, b2, b3, b4⟩ := hmc.up s1
      obtain ⟨la, hla⟩ := get_some (l := xs) (i := i') (by rw [b3]; exact get_lt hl)
      obtain ⟨wa, a1, _⟩ := b4 i' la l hla hl
      have hv : atI (xs.map V.ref) (i' : Int) = some (.ref la) := at_map hla
      have a1' := a1.h
      repeat walk_at "s"
      rw [decide_eq_true (show (0 : Int) ≤ (i' : Int) by omega)]
      refine x_whT ?_
      have stp : ∀ s', silL l i' k' = .stop s' → settleS R.ln i k = (s', c) := fun s' e => by
        rw [settleO_stop hl e] at hs
        cases hs
        rw [hz, Bool.or_false]
      have go : ∀ t k2 c2, silL l i' k' = .go t k2 c2 → ∃ s d, settleO R.ln n t k2 = some (s, d) ∧ settleS R.ln i k = (s, (c || c2) || d) := fun t k2 c2 e => by
        rw [settleO_go hl e] at hs
        obtain ⟨r, hr1, e2⟩ := Option.map_eq_some_iff.mp hs
        cases e2
        exact ⟨r.1, r.2, hr1, by rw [hz, Bool.or_assoc]⟩
      have ret : ∀ s' p H2 a H4, settleS R.ln i k = (s', c) → New H1 H2 p (stP s') → New H2 H4 a (.tup [.ref p, .bl c]) → Q (.ref a) H4 := fun s' p H2 a H4 e n2 n4 =>
        q a p H4 ((s1.trans n2.same).trans n4.same) (by rw [e]; exact n4.up n2.at_) (by rw [e]; exact n4.at_)
      cases l with
      | skp y t =>
        have h5 : H1 la = some (.tup [.str Wd.skp.str, .int y, .int t]) := a1'
        cases k' with
        | none =>
          rw [show kO none = V.non from rfl]
          repeat walk_at "s"
          exact ⟨0, Nat.succ_pos _, none, c, _, _, _, s1, .inr ⟨rfl, stp gone rfl⟩⟩
        | some v =>
          rw [show kO (some v) = V.int v from rfl]
          repeat walk_at "s"
          refine x_ite (fun h1 => ?_) (fun h1 => ?_)
          · repeat walk_at "s"
            intro p H2 n2
            repeat walk_at "s"
            intro a H4 n4
            exact ret ⟨some i', none, v + y⟩ p H2 a H4 (stp _ ((if_neg (by omega)).trans (if_pos h1))) n2 n4
          · repeat walk_at "s"
            refine x_ite (fun h2 => ?_) (fun h2 => ?_)
            · repeat walk_at "s"
              have := go t none false ((if_neg (by omega)).trans (if_neg h1))
              rw [Bool.or_false] at this
              exact ⟨n, Nat.lt_succ_self n, none, c, _, _, _, s1, .inl ⟨t, rfl, this⟩⟩
            · repeat walk_at "s"
              exact ⟨0, Nat.succ_pos _, none, c, _, _, _, s1, .inr ⟨rfl, stp gone (if_pos (by omega))⟩⟩
      | set v t =>
        have h5 : H1 la = some (.tup [.str Wd.set.str, .int v, .int t]) := a1'
        have := go t (some v) false rfl
        rw [Bool.or_false] at this
        repeat walk_at "s"
        exact ⟨n, Nat.lt_succ_self n, some v, c, _, _, _, s1, .inl ⟨t, rfl, this⟩⟩
      | upt v t u =>
        have h5 : H1 la = some (.tup [.str Wd.upt.str, .int v, .int t, .int u]) := a1'
        have := go (upTo v t u k') k' false rfl
        rw [Bool.or_false] at this
        cases k' with
        | none =>
          rw [show kO none = V.non from rfl]
          repeat walk_at "s"
          exact ⟨n, Nat.lt_succ_self n, none, c, _, _, _, s1, .inl ⟨u, rfl, this⟩⟩
        | some y =>
          rw [show kO (some y) = V.int y from rfl]
          repeat walk_at "s"
          refine x_ite (fun h1 => ?_) (fun h1 => ?_)
          · repeat walk_at "s"
            have e : upTo v t u (some y) = t := if_pos h1
            rw [e] at this
            exact ⟨n, Nat.lt_succ_self n, some y, c, _, _, _, s1, .inl ⟨t, rfl, this⟩⟩
          · repeat walk_at "s"
            have e : upTo v t u (some y) = u := if_neg h1
            rw [e] at this
            exact ⟨n, Nat.lt_succ_self n, some y, c, _, _, _, s1, .inl ⟨u, rfl, this⟩⟩
      | cut =>
        have h5 : H1 la = some (.tup [.str Wd.cut.str]) := a1'
        have := go 0 none true rfl
        rw [Bool.or_true] at this
        repeat walk_at "s"
        intro p H2 n2
        repeat walk_at "s"
        exact ⟨n, Nat.lt_succ_self n, none, true, _, _, _, s1.trans n2.same, .inl ⟨0, rfl, this⟩⟩
      | rfs =>
        have h5 : H1 la = some (.tup [.str Wd.rfs.str]) := a1'
        repeat walk_at "s"
        exact ⟨0, Nat.succ_pos _, k', c, _, _, _, s1, .inr ⟨rfl, stp gone rfl⟩⟩
      | jmp v t =>
        have h5 : H1 la = some (.tup [.str Wd.jmp.str, .int v, .int t]) := a1'
        repeat walk_at "s"
        intro p H2 n2
        repeat walk_at "s"
        intro a H4 n4
        exact ret ⟨some i', k', v⟩ p H2 a H4 (stp _ rfl) n2 n4
      | cas ws o =>
        have h5 : H1 la = some (.tup [.str Wd.cas.str, .ref wa, .int o]) := a1'
        repeat walk_at "s"
        intro p H2 n2
        repeat walk_at "s"
        intro a H4 n4
        exact ret ⟨some i', k', 1⟩ p H2 a H4 (stp _ rfl) n2 n4
      | tak t =>
        have h5 : H1 la = some (.tup [.str Wd.tak.str, .int t]) := a1'
        repeat walk_at "s"
        intro p H2 n2
        repeat walk_at "s"
        intro a H4 n4
        exact ret ⟨some i', k', 1⟩ p H2 a H4 (stp _ rfl) n2 n4
      | rst v t =>
        have h5 : H1 la = some (.tup [.str Wd.rst.str, .int v, .int t]) := a1'
        repeat walk_at "s"
        intro p H2 n2
        repeat walk_at "s"
        intro a H4 n4
        exact ret ⟨some i', k', 1⟩ p H2 a H4 (stp _ rfl) n2 n4
      | cap v t =>
        have h5 : H1 la = some (.tup [.str Wd.cap.str, .int v, .int t]) := a1'
        repeat walk_at "s"
        intro p H2 n2
        repeat walk_at "s"
        intro a H4 n4
        exact ret ⟨some i', k', 1⟩ p H2 a H4 (stp _ rfl) n2 n4
    · repeat walk_at "s"
      rw [decide_eq_false (show ¬ (0 : Int) ≤ -1 by decide)]
      refine x_whF ?_
      repeat walk_at "s"
      intro p H2 n2
      repeat walk_at "s"
      intro a H4 n4
      exact q a p H4 ((s1.trans n2.same).trans n4.same) (by rw [hz]; exact n4.up n2.at_) (by rw [hz]; exact n4.at_)
end
end
end K21
end

section
set_option maxRecDepth 100000
set_option maxHeartbeats 4000000
namespace K21
open PySem PySem.Spec PyProof.Rows L2
noncomputable section
local macro_rules | `(tactic| walk_at "hp") => `(tactic| first
  | assumption
  | ((with_reducible refine' At.h ?q); (case q => assumption))
  | ((with_reducible refine' New.at_ ?q); (case q => assumption))
  | ((with_reducible refine' Chg.at_ ?q); (case q => assumption))
  | ((with_reducible refine' New.up ?n ?q); (case n => assumption); (case q => walk_at "hp"))
  | ((with_reducible refine' Same.up ?n ?q); (case n => assumption); (case q => walk_at "hp")))
local macro_rules | `(tactic| walk_at "sz") => `(tactic| first | exact Nat.le_of_ble_eq_true rfl | assumption | omega)
local macro_rules | `(tactic| walk_at "i") => `(tactic| first
  | with_reducible refine' x_I0 ?_
  | ((with_reducible refine' x_I ?c ?_); (case c => first | assumption | (show (_ : Int) ≠ 0; omega) | exact .inr ⟨by decide, by decide⟩ | exact .inl ⟨by decide, by decide⟩ | (refine ⟨?_, ?_⟩ <;> first | decide | omega)))
  | with_reducible refine' x_eqI ?_
  | with_reducible refine' x_neI ?_
  | with_reducible refine' x_eqS ?_
  | with_reducible refine' x_neS ?_
  | with_reducible refine' x_isN ?_
  | with_reducible refine' x_notN ?_
  | with_reducible refine' x_U ?_
  | with_reducible refine' x_int ?_
  | with_reducible refine' x_intB ?_
  | with_reducible refine' x_min2 ?_
  | with_reducible refine' x_max2 ?_
  | ((with_reducible refine' x_ixLh ?h ?v ?_); (case h => walk_at "hp"); (case v => first | exact rfl | assumption))
  | ((with_reducible refine' x_ixTh ?h ?v ?_); (case h => walk_at "hp"); (case v => first | exact rfl | assumption))
  | ((with_reducible refine' x_lenL ?h ?_); (case h => walk_at "hp"))
  | ((with_reducible refine' x_lenT ?h ?_); (case h => walk_at "hp"))
  | ((with_reducible refine' x_gtuph ?h ?l ?_); (case h => walk_at "hp"); (case l => exact rfl))
  | ((with_reducible refine' x_BmAh ?h ?_); (case h => walk_at "hp"))
  | ((with_reducible refine' x_BmA0h ?h ?_); (case h => walk_at "hp"))
  | ((with_reducible refine' x_inStr ?h ?_); (case h => walk_at "hp"))
  | ((with_reducible refine' x_ninStr ?h ?_); (case h => walk_at "hp"))
  | ((with_reducible refine' x_inInt ?h ?_); (case h => walk_at "hp"))
  | ((with_reducible refine' x_ninInt ?h ?_); (case h => walk_at "hp"))
  | ((with_reducible refine' x_inL ?h ?f ?g ?_); (case h => walk_at "hp"); (case f => exact rfl); (case g => first | exact rfl | assumption))
  | ((with_reducible refine' x_inR ?h ?f ?g ?_); (case h => assumption); (case f => exact rfl); (case g => exact rfl))
  | ((with_reducible refine' x_inT ?h ?f ?g ?_); (case h => walk_at "hp"); (case f => exact rfl); (case g => first | exact rfl | assumption))
  | ((with_reducible refine' x_notInL ?h ?f ?g ?_); (case h => walk_at "hp"); (case f => exact rfl); (case g => first | exact rfl | assumption))
  | ((with_reducible refine' x_setL ?h ?j ?_); (case h => walk_at "hp"); (case j => first | exact rfl | assumption))
  | ((with_reducible refine' x_append ?h ?l ?_); (case h => walk_at "hp"); (case l => walk_at "sz"))
  | ((with_reducible refine' x_neNil ?h ?g ?_); (case h => walk_at "hp"); (case g => walk_at "hp"))
  | ((with_reducible refine' x_eqNil ?h ?g ?_); (case h => walk_at "hp"); (case g => walk_at "hp"))
  | ((with_reducible refine' x_DgA ?h ?v ?_); (case h => walk_at "hp"); (case v => first | exact stK_at _ _ _ | exact bkK_first _ _ | exact bkK_lines _ _ | exact stK_kept _ _ _ | exact stK_left _ _ _ | assumption))
  | ((with_reducible refine' x_FldA ?h ?c ?n ?l ?_); (case h => walk_at "hp"); (case c => assumption); (case n => assumption); (case l => first | exact rfl | assumption))
  | ((with_reducible refine' x_DspS ?h ?_); (case h => walk_at "hp"))
  | ((with_reducible refine' x_AlT ?h ?_); (case h => walk_at "sz"))
  | ((with_reducible refine' x_AlL ?h ?_); (case h => walk_at "sz"))
  | ((with_reducible refine' x_Rg1 ?a ?b ?_); (case a => omega); (case b => omega))
  | ((with_reducible refine' x_Rg2 ?a ?b ?c ?d ?_); (case a => omega); (case b => omega); (case c => omega); (case d => omega))
  | with_reducible refine' x_AlO ?_)
local macro_rules | `(tactic| walk_at "s") => `(tactic| first
  | with_reducible refine' x_seq ?_
  | with_reducible refine' x_asg ?_
  | with_reducible refine' x_gname ?_
  | ((with_reducible refine' x_var ?h ?_); (case h => exact rfl))
  | with_reducible refine' x_c ?_
  | with_reducible refine' x_op ?_
  | with_reducible refine' x_cons ?_
  | with_reducible refine' x_nil ?_
  | with_reducible refine' x_cb ?_
  | with_reducible refine' x_ret ?_
  | with_reducible refine' x_ifS ?_
  | with_reducible refine' x_test ?_
  | with_reducible refine' x_B ?_
  | with_reducible refine' x_bl ?_
  | with_reducible refine' x_if ?_
  | with_reducible refine' x_call ?_
  | with_reducible refine' x_tup ?_
  | with_reducible refine' x_lst ?_
  | with_reducible refine' x_gcons ?_
  | with_reducible refine' x_gnil ?_
  | with_reducible refine' x_gsub ?_
  | with_reducible refine' x_next ?_
  | with_reducible refine' x_drop ?_
  | with_reducible refine' x_and ?_
  | with_reducible refine' x_or ?_
  | with_reducible refine' x_not ?_
  | with_reducible refine' x_andV ?_
  | with_reducible refine' x_orV ?_
  | with_reducible refine' x_un ?_
  | with_reducible refine' x_chain ?_
  | with_reducible refine' x_sfld ?_
  | with_reducible refine' x_par ?_
  | with_reducible refine' x_par2 ?_
  | with_reducible refine' x_par3 ?_
  | with_reducible refine' x_par33 ?_
  | with_reducible refine' x_fld ?_
  | with_reducible refine' x_meth ?_
  | with_reducible refine' x_bm ?_
  | with_reducible refine' x_bm0 ?_
  | with_reducible refine' x_forL ?_
  | with_reducible refine' x_forT ?_
  | with_reducible refine' x_forR1 ?_
  | with_reducible refine' x_forET ?_
  | with_reducible refine' x_forEL ?_
  | with_reducible refine' x_forR2 ?_
  | with_reducible refine' x_lcL ?_
  | with_reducible refine' x_lcT ?_
  | with_reducible refine' x_lcR1 ?_
  | with_reducible refine' x_lcR2 ?_
  | with_reducible refine' x_dnew ?_
  | with_reducible refine' x_retN ?_
  | with_reducible refine' x_ff ?_
  | with_reducible refine' x_lrg1 ?_
  | with_reducible refine' x_disp ?_
  | with_reducible refine' x_pnil ?_
  | with_reducible refine' x_pcons ?_
  | with_reducible refine' x_dget ?_
  | with_reducible refine' x_dput ?_
  | with_reducible refine' x_dnewN ?_
  | with_reducible refine' x_nin ?_
  | with_reducible refine' x_nget ?_
  | with_reducible refine' x_nput ?_
  | ((with_reducible refine' x_yes ?e ?_); (case e => first | decide +kernel | exact not_int_non _ | exact not_str_non _))
  | ((with_reducible refine' x_no ?e ?_); (case e => first | decide +kernel | exact int_non _ | exact str_non _))
  | with_reducible refine' x_lrg2 ?_
  | with_reducible refine' x_tt ?_
  | with_reducible refine' x_break ?_
  | walk_at "i")

def Nscbegin : List Str := ["machine"]
theorem scbegin : FnScope Nscbegin ["machine"] (defScope (topS 34)) := ⟨rfl, rfl, rfl, by decide +kernel, rfl, by decide +kernel, by decide +kernel⟩
def Nscexit_of : List Str := ["ways", "cell", "spot", "value", "way"]
theorem scexit_of : FnScope Nscexit_of ["ways", "cell"] (defScope (topS 35)) := ⟨rfl, rfl, rfl, by decide +kernel, rfl, by decide +kernel, by decide +kernel⟩
def Nsckept_by : List Str := ["parts", "kept", "cell"]
theorem sckept_by : FnScope Nsckept_by ["parts", "kept", "cell"] (defScope (topS 36)) := ⟨rfl, rfl, rfl, by decide +kernel, rfl, by decide +kernel, by decide +kernel⟩
def exitN (cell : Int) : List (Int × Nat) → Nat
  | [] => 0
  | p :: r => if p.1 = cell then 0 else exitN cell r + 1
theorem exitN_le (cell : Int) : ∀ ws, exitN cell ws ≤ ws.length
  | [] => Nat.le_refl _
  | p :: r => by
    show (if p.1 = cell then 0 else exitN cell r + 1) ≤ r.length + 1
    split
    · exact Nat.zero_le _
    · have := exitN_le cell r; omega
theorem exitN_at (cell : Int) : ∀ (ws : List (Int × Nat)) (j : Nat) (p : Int × Nat), (∀ i, i < j → ∀ q, ws[i]? = some q → q.1 ≠ cell) → ws[j]? = some p → p.1 = cell → exitN cell ws = j
  | [], j, p, _, h, _ => nomatch h
  | a :: r, 0, p, _, h, e => by cases h; exact if_pos e
  | a :: r, j + 1, p, hn, h, e => by
    show (if a.1 = cell then 0 else exitN cell r + 1) = j + 1
    rw [if_neg (hn 0 (Nat.succ_pos _) a rfl), exitN_at cell r j p (fun i hi q hq => hn (i + 1) (by omega) q hq) h e]
theorem exitN_no (cell : Int) : ∀ (ws : List (Int × Nat)), (∀ (i : Nat) (q : Int × Nat), ws[i]? = some q → q.1 ≠ cell) → exitN cell ws = ws.length
  | [], _ => rfl
  | a :: r, hn => by
    show (if a.1 = cell then 0 else exitN cell r + 1) = r.length + 1
    rw [if_neg (hn 0 a rfl), exitN_no cell r (fun i q hq => hn (i + 1) q hq)]
theorem exit_way (cell : Int) (o : Nat) : ∀ (ws : List (Int × Nat)), (∀ p, ws[exitN cell ws]? = some p → wayIn cell o ws = p.2) ∧ (exitN cell ws = ws.length → wayIn cell o ws = o)
  | [] => ⟨(fun p h => nomatch h), fun _ => rfl⟩
  | a :: r => by
    by_cases h : a.1 = cell
    · have e : exitN cell (a :: r) = 0 := if_pos h
      have e2 : wayIn cell o (a :: r) = a.2 := if_pos h
      rw [e, e2]
      exact ⟨fun p hp => by cases hp; rfl, fun z => nomatch z⟩
    · have e : exitN cell (a :: r) = exitN cell r + 1 := if_neg h
      have e2 : wayIn cell o (a :: r) = wayIn cell o r := if_neg h
      rw [e, e2]
      exact ⟨fun p hp => (exit_way cell o r).1 p hp, fun z => (exit_way cell o r).2 (Nat.succ.inj z)⟩
section
variable {P : Program} {w : World} {K : PySem.W.Frag} {mg : Str → Option Value} {base : Heap} {CM rd : Addr}
def spBegin (CM : Addr) : Sp := fun vs H Q _ => ∃ (mc : Addr) (R : Rd), vs = [.ref mc] ∧ MachAt H CM mc R ∧ WF R ∧ ∀ (sd : Addr) (H' : Hp), Same H H' → H' sd = some (stP (begS R.ln)) → Q (.ref sd) H'
theorem ok_begin {f : Addr} {fd : FuncData} (F : L2.Fun K "begin" "begin" (topS 34) f fd) (m : mg "begin" = some (.ref f)) (b : Binds K fd ["machine"] []) (G : Gm K mg) (c_settle : C8.Cal P w K mg base 1 "settle" (spPset CM) []) : C8.Cal P w K mg base 2 "begin" (spBegin CM) [] := by
  refine calN F m b scbegin (fun vs H Q E h => ?_) (fun cdv A outer s H vs Q E hr h => ?_)
  · obtain ⟨mc, R, rfl, _⟩ := h
    rfl
  obtain ⟨mc, R, rfl, hmc, wf, q⟩ := h
  refine ⟨_, (pss_one (ps_ret (pe_ix ix_tup (C8.pe_c c_settle hr (by decide) rfl (pa_cons (pv 0) (pa_cons pe_int (pa_cons pe_non pa_nil)))) pe_int (fun _ _ => rfl)))), ?_⟩
  rw [show L2.start Nscbegin [.ref mc] = [some (.ref mc)] from rfl]; try simp only [cxK, cxK2, cxP, cxW, cxPn, cxWn]
  repeat walk_at "s"
  refine ⟨mc, R, 0, none, rfl, hmc, wf, len_pos wf, (fun _ h => nomatch h), fun a sd H1 s1 h1 h2 => ?_⟩
  repeat walk_at "s"
  exact q sd H1 s1 h1
def spExit : Sp := fun vs H Q _ => ∃ (wt : Addr) (rs : List Addr) (ws : List (Int × Nat)) (cell : Int), vs = [.ref wt, .int cell] ∧ H wt = some (.tup (rs.map V.ref)) ∧ WaysAt No H ixV rs ws ∧ ws.length ≤ 6 ∧
  ∀ H', Same H H' → Q (.int (exitN cell ws)) H'
theorem ok_exit {f : Addr} {fd : FuncData} (F : L2.Fun K "exit_of" "exit_of" (topS 35) f fd) (m : mg "exit_of" = some (.ref f)) (b : Binds K fd ["ways", "cell"] []) (G : Gm K mg) : C8.Cal P w K mg base 1 "exit_of" spExit [] := by
  refine calN F m b scexit_of (fun vs H Q E h => ?_) (fun cdv A outer s H vs Q E hr h => ?_)
  · obtain ⟨wt, rs, ws, cell, rfl, _⟩ := h
    rfl
  obtain ⟨wt, rs, ws, cell, rfl, hwt, hws, hle, q⟩ := h
  refine ⟨_, (pss_cons (ps_for PassesOwn.never rfl (k_enumT (by rfl) G.enumerate (pa_cons (pv 0) pa_nil)) (pg_tup rfl (pgs_cons (pg_name (i := 2) scexit_of.nd rfl (Or.inl rfl)) (pgs_cons (pg_tup rfl (pgs_cons (pg_name (i := 3) scexit_of.nd rfl (Or.inl rfl)) (pgs_cons (pg_name (i := 4) scexit_of.nd rfl (Or.inl rfl)) pgs_nil))) pgs_nil))) (pss_one (ps_if (pt_cmpR op_eq (pv 3) (pv 1) (nomark _)) (pss_one (ps_ret (pv 2))) pss_nil))) (pss_one (ps_ret (pe_callB k_len (by rfl) G.len PySem.boot_len (pa_cons (pv 0) pa_nil))))), ?_⟩
  rw [show L2.start Nscexit_of [.ref wt, .int cell] = [some (.ref wt), some (.int cell), none, none, none] from rfl]; try simp only [cxK, cxK2, cxP, cxW, cxPn, cxWn]
  have hl := hws.1
  repeat walk_at "s"
  refine x_ForET (SqT.of hwt) (fun j σ H' => ∃ (x2 x3 x4 : Option V), σ = [some (.ref wt), some (.int cell), x2, x3, x4] ∧ Same H H' ∧ ∀ i, i < j → ∀ p, ws[i]? = some p → p.1 ≠ cell) ?_ ?_ ?_ ?_
  · exact ⟨none, none, none, rfl, Same.refl _, fun i hi => absurd hi (Nat.not_lt_zero _)⟩
  · rintro i σ H' _ ⟨_, _, _, _, s', _⟩
    exact SqT.of (s' _ _ hwt)
  · rintro j x σ H1 H2 T hx ⟨x2, x3, x4, rfl, s1, hn⟩ n2
    obtain ⟨r, hr', rfl⟩ := map_some hx
    obtain ⟨p, hp⟩ := get_some (l := ws) (i := j) (by have := get_lt hr'; omega)
    have hrp : H2 r = some (.tup [.int p.1, .int p.2]) := n2.up (s1 _ _ (hws.2 j r p hr' hp).h)
    have hT := n2.at_
    repeat walk_at "s"
    refine x_ite (fun h => ?_) (fun h => ?_)
    · repeat walk_at "s"
      have e := exitN_at cell ws j p hn hp h
      have := q H2 (s1.trans n2.same)
      rw [e] at this
      exact this
    · repeat walk_at "s"
      refine ⟨_, _, _, rfl, s1.trans n2.same, fun i hi p' hp' => ?_⟩
      by_cases hij : i = j
      · rw [hij, hp] at hp'
        cases hp'
        exact h
      · exact hn i (by omega) p' hp'
  · rintro σ H1 ⟨x2, x3, x4, rfl, s1, hn⟩
    have hw1 := s1 _ _ hwt
    repeat walk_at "s"
    have e := exitN_no cell ws fun i p hp => hn i (by rw [List.length_map]; have := get_lt hp; omega) p hp
    have := q H1 s1
    rw [e, ← hl] at this
    rw [List.length_map]
    exact this
def spKept : Sp := fun vs H Q _ => ∃ (pa wa : Addr) (l : Ln) (k : Option Int) (cell : Int), vs = [.ref pa, kO k, .int cell] ∧ H pa = some (.tup (l.row ixV wa)) ∧ l.par ∧
  ∀ H', Same H H' → Q (kO (keptBy l k cell)) H'
theorem ok_kept {f : Addr} {fd : FuncData} (F : L2.Fun K "kept_by" "kept_by" (topS 36) f fd) (m : mg "kept_by" = some (.ref f)) (b : Binds K fd ["parts", "kept", "cell"] []) (G : Gm K mg) : C8.Cal P w K mg base 1 "kept_by" spKept [] := by
  refine calN F m b sckept_by (fun vs H Q E h => ?_) (fun cdv A outer s H vs Q E hr h => ?_)
  · obtain ⟨pa, wa, l, k, cell, rfl, _⟩ := h
    rfl
  obtain ⟨pa, wa, l, k, cell, rfl, hpa, hpar, q⟩ := h
  refine ⟨_, (pss_cons (ps_if (pt_cmpR op_eq (pe_ix ix_tup (pv 0) pe_int (fun _ _ => rfl)) pe_str (nomark _)) (pss_one (ps_ret (pv 2))) pss_nil) (pss_cons (ps_if (pt_cmpR op_eq (pe_ix ix_tup (pv 0) pe_int (fun _ _ => rfl)) pe_str (nomark _)) (pss_one (ps_ret (pe_op op_modN (pe_callTy k_int (by rfl) G.int (by decide +kernel) (pa_cons (pv 2) pa_nil)) (pe_ix ix_tup (pv 0) pe_int (fun _ _ => rfl))))) pss_nil) (pss_one (ps_ret (pe_ifExp (pt_cmpR op_eq (pe_ix ix_tup (pv 0) pe_int (fun _ _ => rfl)) pe_str (nomark _)) (pe_callB (k_min2 rfl) (by rfl) G.min (by decide +kernel) (pa_cons (pv 2) (pa_cons (pe_ix ix_tup (pv 0) pe_int (fun _ _ => rfl)) pa_nil))) (pv 1)))))), ?_⟩
  rw [show L2.start Nsckept_by [.ref pa, kO k, .int cell] = [some (.ref pa), some (kO k), some (.int cell)] from rfl]; try simp only [cxK, cxK2, cxP, cxW, cxPn, cxWn]
  have q := q H (Same.refl _)
  cases l with
  | tak t =>
    have h5 : H pa = some (.tup [.str Wd.tak.str, .int t]) := hpa
    repeat walk_at "s"
    exact q
  | rst v t =>
    have h5 : H pa = some (.tup [.str Wd.rst.str, .int v, .int t]) := hpa
    have hp : 2 ≤ v ∧ v ≤ 4 := hpar
    repeat walk_at "s"
    rw [Int.fmod_eq_emod_of_nonneg cell (by omega)]
    exact q
  | cap v t =>
    have h5 : H pa = some (.tup [.str Wd.cap.str, .int v, .int t]) := hpa
    repeat walk_at "s"
    rw [show (if v < cell then v else cell) = min cell v by split <;> omega]
    exact q
  | cas ws o =>
    have h5 : H pa = some (.tup [.str Wd.cas.str, .ref wa, .int o]) := hpa
    repeat walk_at "s"
    exact q
  | jmp v t =>
    have h5 : H pa = some (.tup [.str Wd.jmp.str, .int v, .int t]) := hpa
    repeat walk_at "s"
    exact q
  | skp v t =>
    have h5 : H pa = some (.tup [.str Wd.skp.str, .int v, .int t]) := hpa
    repeat walk_at "s"
    exact q
  | set v t =>
    have h5 : H pa = some (.tup [.str Wd.set.str, .int v, .int t]) := hpa
    repeat walk_at "s"
    exact q
  | upt v t u =>
    have h5 : H pa = some (.tup [.str Wd.upt.str, .int v, .int t, .int u]) := hpa
    repeat walk_at "s"
    exact q
  | cut =>
    have h5 : H pa = some (.tup [.str Wd.cut.str]) := hpa
    repeat walk_at "s"
    exact q
  | rfs =>
    have h5 : H pa = some (.tup [.str Wd.rfs.str]) := hpa
    repeat walk_at "s"
    exact q
end
end
end K21
end

section
set_option maxRecDepth 100000
set_option maxHeartbeats 4000000
namespace K21
open PySem PySem.Spec PyProof.Rows L2
noncomputable section
local macro_rules | `(tactic| walk_at "hp") => `(tactic| first
  | assumption
  | ((with_reducible refine' At.h ?q); (case q => assumption))
  | ((with_reducible refine' New.at_ ?q); (case q => assumption))
  | ((with_reducible refine' Chg.at_ ?q); (case q => assumption))
  | ((with_reducible refine' New.up ?n ?q); (case n => assumption); (case q => walk_at "hp"))
  | ((with_reducible refine' Same.up ?n ?q); (case n => assumption); (case q => walk_at "hp")))
local macro_rules | `(tactic| walk_at "sz") => `(tactic| first | exact Nat.le_of_ble_eq_true rfl | assumption | omega)
local macro_rules | `(tactic| walk_at "i") => `(tactic| first
  | with_reducible refine' x_I0 ?_
  | ((with_reducible refine' x_I ?c ?_); (case c => first | assumption | (show (_ : Int) ≠ 0; omega) | exact .inr ⟨by decide, by decide⟩ | exact .inl ⟨by decide, by decide⟩ | (refine ⟨?_, ?_⟩ <;> first | decide | omega)))
  | with_reducible refine' x_eqI ?_
  | with_reducible refine' x_neI ?_
  | with_reducible refine' x_eqS ?_
  | with_reducible refine' x_neS ?_
  | with_reducible refine' x_isN ?_
  | with_reducible refine' x_notN ?_
  | with_reducible refine' x_U ?_
  | with_reducible refine' x_int ?_
  | with_reducible refine' x_intB ?_
  | with_reducible refine' x_min2 ?_
  | with_reducible refine' x_max2 ?_
  | ((with_reducible refine' x_ixLh ?h ?v ?_); (case h => walk_at "hp"); (case v => first | exact rfl | assumption))
  | ((with_reducible refine' x_ixTh ?h ?v ?_); (case h => walk_at "hp"); (case v => first | exact rfl | assumption))
  | ((with_reducible refine' x_lenL ?h ?_); (case h => walk_at "hp"))
  | ((with_reducible refine' x_lenT ?h ?_); (case h => walk_at "hp"))
  | ((with_reducible refine' x_gtuph ?h ?l ?_); (case h => walk_at "hp"); (case l => exact rfl))
  | ((with_reducible refine' x_BmAh ?h ?_); (case h => walk_at "hp"))
  | ((with_reducible refine' x_BmA0h ?h ?_); (case h => walk_at "hp"))
  | ((with_reducible refine' x_inStr ?h ?_); (case h => walk_at "hp"))
  | ((with_reducible refine' x_ninStr ?h ?_); (case h => walk_at "hp"))
  | ((with_reducible refine' x_inInt ?h ?_); (case h => walk_at "hp"))
  | ((with_reducible refine' x_ninInt ?h ?_); (case h => walk_at "hp"))
  | ((with_reducible refine' x_inL ?h ?f ?g ?_); (case h => walk_at "hp"); (case f => exact rfl); (case g => first | exact rfl | assumption))
  | ((with_reducible refine' x_inR ?h ?f ?g ?_); (case h => assumption); (case f => exact rfl); (case g => exact rfl))
  | ((with_reducible refine' x_inT ?h ?f ?g ?_); (case h => walk_at "hp"); (case f => exact rfl); (case g => first | exact rfl | assumption))
  | ((with_reducible refine' x_notInL ?h ?f ?g ?_); (case h => walk_at "hp"); (case f => exact rfl); (case g => first | exact rfl | assumption))
  | ((with_reducible refine' x_setL ?h ?j ?_); (case h => walk_at "hp"); (case j => first | exact rfl | assumption))
  | ((with_reducible refine' x_append ?h ?l ?_); (case h => walk_at "hp"); (case l => walk_at "sz"))
  | ((with_reducible refine' x_neNil ?h ?g ?_); (case h => walk_at "hp"); (case g => walk_at "hp"))
  | ((with_reducible refine' x_eqNil ?h ?g ?_); (case h => walk_at "hp"); (case g => walk_at "hp"))
  | ((with_reducible refine' x_DgA ?h ?v ?_); (case h => walk_at "hp"); (case v => first | exact stK_at _ _ _ | exact bkK_first _ _ | exact bkK_lines _ _ | exact stK_kept _ _ _ | exact stK_left _ _ _ | assumption))
  | ((with_reducible refine' x_FldA ?h ?c ?n ?l ?_); (case h => walk_at "hp"); (case c => assumption); (case n => assumption); (case l => first | exact rfl | assumption))
  | ((with_reducible refine' x_DspS ?h ?_); (case h => walk_at "hp"))
  | ((with_reducible refine' x_AlT ?h ?_); (case h => walk_at "sz"))
  | ((with_reducible refine' x_AlL ?h ?_); (case h => walk_at "sz"))
  | ((with_reducible refine' x_Rg1 ?a ?b ?_); (case a => omega); (case b => omega))
  | ((with_reducible refine' x_Rg2 ?a ?b ?c ?d ?_); (case a => omega); (case b => omega); (case c => omega); (case d => omega))
  | with_reducible refine' x_AlO ?_)
local macro_rules | `(tactic| walk_at "s") => `(tactic| first
  | with_reducible refine' x_seq ?_
  | with_reducible refine' x_asg ?_
  | with_reducible refine' x_gname ?_
  | ((with_reducible refine' x_var ?h ?_); (case h => exact rfl))
  | with_reducible refine' x_c ?_
  | with_reducible refine' x_op ?_
  | with_reducible refine' x_cons ?_
  | with_reducible refine' x_nil ?_
  | with_reducible refine' x_cb ?_
  | with_reducible refine' x_ret ?_
  | with_reducible refine' x_ifS ?_
  | with_reducible refine' x_test ?_
  | with_reducible refine' x_B ?_
  | with_reducible refine' x_bl ?_
  | with_reducible refine' x_if ?_
  | with_reducible refine' x_call ?_
  | with_reducible refine' x_tup ?_
  | with_reducible refine' x_lst ?_
  | with_reducible refine' x_gcons ?_
  | with_reducible refine' x_gnil ?_
  | with_reducible refine' x_gsub ?_
  | with_reducible refine' x_next ?_
  | with_reducible refine' x_drop ?_
  | with_reducible refine' x_and ?_
  | with_reducible refine' x_or ?_
  | with_reducible refine' x_not ?_
  | with_reducible refine' x_andV ?_
  | with_reducible refine' x_orV ?_
  | with_reducible refine' x_un ?_
  | with_reducible refine' x_chain ?_
  | with_reducible refine' x_sfld ?_
  | with_reducible refine' x_par ?_
  | with_reducible refine' x_par2 ?_
  | with_reducible refine' x_par3 ?_
  | with_reducible refine' x_par33 ?_
  | with_reducible refine' x_fld ?_
  | with_reducible refine' x_meth ?_
  | with_reducible refine' x_bm ?_
  | with_reducible refine' x_bm0 ?_
  | with_reducible refine' x_forL ?_
  | with_reducible refine' x_forT ?_
  | with_reducible refine' x_forR1 ?_
  | with_reducible refine' x_forET ?_
  | with_reducible refine' x_forEL ?_
  | with_reducible refine' x_forR2 ?_
  | with_reducible refine' x_lcL ?_
  | with_reducible refine' x_lcT ?_
  | with_reducible refine' x_lcR1 ?_
  | with_reducible refine' x_lcR2 ?_
  | with_reducible refine' x_dnew ?_
  | with_reducible refine' x_retN ?_
  | with_reducible refine' x_ff ?_
  | with_reducible refine' x_lrg1 ?_
  | with_reducible refine' x_disp ?_
  | with_reducible refine' x_pnil ?_
  | with_reducible refine' x_pcons ?_
  | with_reducible refine' x_dget ?_
  | with_reducible refine' x_dput ?_
  | with_reducible refine' x_dnewN ?_
  | with_reducible refine' x_nin ?_
  | with_reducible refine' x_nget ?_
  | with_reducible refine' x_nput ?_
  | ((with_reducible refine' x_yes ?e ?_); (case e => first | decide +kernel | exact not_int_non _ | exact not_str_non _))
  | ((with_reducible refine' x_no ?e ?_); (case e => first | decide +kernel | exact int_non _ | exact str_non _))
  | with_reducible refine' x_lrg2 ?_
  | with_reducible refine' x_tt ?_
  | with_reducible refine' x_break ?_
  | walk_at "i")

def Nscstep : List Str := ["machine", "state", "cell", "line", "kept", "left", "parts", "word", "spot", "way", "found", "is_cut"]
theorem scstep : FnScope Nscstep ["machine", "state", "cell"] (defScope (topS 37)) := ⟨rfl, rfl, rfl, by decide +kernel, rfl, by decide +kernel, by decide +kernel⟩
def Nschop : List Str := ["machine", "state", "count", "cell", "line", "kept", "left", "many", "found", "is_cut", "spot"]
theorem schop : FnScope Nschop ["machine", "state", "count", "cell"] (defScope (topS 38)) := ⟨rfl, rfl, rfl, by decide +kernel, rfl, by decide +kernel, by decide +kernel⟩
theorem hold_it {L : List Ln} {cell : Int} {s : St} {i : Nat} {l : Ln} (h1 : s.ln = some i) (h2 : L[i]? = some l) : ∀ j : Nat, (j : Int) < s.left → iter L cell j s = ⟨s.ln, s.kept, s.left - j⟩
  | 0, _ => by
    obtain ⟨a, b, c⟩ := s
    show St.mk a b c = ⟨a, b, c - 0⟩
    rw [Int.sub_zero]
  | j + 1, hj => by
    have ih := hold_it (cell := cell) h1 h2 j (by omega)
    show (stepS L cell (iter L cell j s)).1 = _
    rw [ih, stepS_of (s := ⟨s.ln, s.kept, s.left - (j : Int)⟩) (i := i) (l := l) h1 h2]
    unfold stepL
    have hlt : 1 < (St.mk s.ln s.kept (s.left - (j : Int))).left := by show 1 < s.left - (j : Int); omega
    rw [if_pos hlt]
    show (⟨some i, s.kept, s.left - (j : Int) - 1⟩ : St) = _
    rw [h1, show s.left - (j : Int) - 1 = s.left - ((j + 1 : Nat) : Int) by omega]
theorem hold_step {L : List Ln} {cell : Int} {s : St} {i : Nat} {l : Ln} (h1 : s.ln = some i) (h2 : L[i]? = some l) (j : Nat) (hj : (j : Int) + 1 < s.left) : (stepS L cell (iter L cell j s)).2 = false ∧ evS L cell (iter L cell j s) = none := by
  have e := hold_it (cell := cell) h1 h2 j (by omega)
  have e1 : stepS L cell (iter L cell j s) = (⟨some i, s.kept, s.left - (j : Int) - 1⟩, false) := by
    rw [e, stepS_of (s := ⟨s.ln, s.kept, s.left - (j : Int)⟩) (i := i) (l := l) h1 h2]
    unfold stepL
    have hlt : 1 < (St.mk s.ln s.kept (s.left - (j : Int))).left := by show 1 < s.left - (j : Int); omega
    rw [if_pos hlt]
  refine ⟨by rw [e1], evS_isNone (by rw [e1]) (by rw [e1]; exact nofun)⟩
section
variable {P : Program} {w : World} {K : PySem.W.Frag} {mg : Str → Option Value} {base : Heap} {CM rd : Addr}
def spPstep (CM : Addr) : Sp := fun vs H Q _ => ∃ (mc st : Addr) (R : Rd) (s : St) (cell : Int), vs = [.ref mc, .ref st, .int cell] ∧ MachAt H CM mc R ∧ WF R ∧ H st = some (stP s) ∧ Live R.ln s ∧ 0 ≤ cell ∧ cell ≤ 6 ∧
  ∀ (a sd : Addr) (x : V) (H' : Hp), Same H H' → H' sd = some (stP (stepS R.ln cell s).1) → H' a = some (.tup [.ref sd, .bl (stepS R.ln cell s).2, x]) → Q (.ref a) H'
theorem ok_pstep {f : Addr} {fd : FuncData} (F : L2.Fun K "step" "step" (topS 37) f fd) (m : mg "step" = some (.ref f)) (b : Binds K fd ["machine", "state", "cell"] []) (G : Gm K mg) (CMok : McOk K CM) (c_settle : C8.Cal P w K mg base 1 "settle" (spPset CM) [])
    (c_exit_of : C8.Cal P w K mg base 1 "exit_of" spExit []) (c_kept_by : C8.Cal P w K mg base 1 "kept_by" spKept []) : C8.Cal P w K mg base 2 "step" (spPstep CM) [] := by
  refine calN F m b scstep (fun vs H Q E h => ?_) (fun cdv A outer s H vs Q E hr h => ?_)
  · obtain ⟨mc, st, R, s, cell, rfl, _⟩ := h
    rfl
  obtain ⟨mc, st, R, s, cell, rfl, hmc, wf, hst, ⟨i, l, h1, hl, hin⟩, c0, c1, q⟩ := h
  refine ⟨_, (pss_cons (ps_asg (pv 1) (pg_tup rfl (pgs_cons (pg_name (i := 3) scstep.nd rfl (Or.inl rfl)) (pgs_cons (pg_name (i := 4) scstep.nd rfl (Or.inl rfl)) (pgs_cons (pg_name (i := 5) scstep.nd rfl (Or.inl rfl)) pgs_nil))))) (pss_cons (ps_if (pt_cmpR op_lt (pv 3) pe_int (nomark _)) (pss_one (ps_ret (pe_tup (pa_cons (pv 1) (pa_cons pe_bl (pa_cons pe_non pa_nil)))))) pss_nil) (pss_cons (ps_set (i := 6) scstep.nd rfl (Or.inl rfl) (pe_ix ix_tup (pe_fld (pv 0) rfl) (pv 3) (fun _ _ => rfl))) (pss_cons (ps_set (i := 7) scstep.nd rfl (Or.inl rfl) (pe_ix ix_tup (pv 6) pe_int (fun _ _ => rfl))) (pss_cons (ps_set (i := 8) scstep.nd rfl (Or.inl rfl) (pe_ifExp (PW.pt (pw_and (pt_cmpR op_ne (pv 7) pe_str (nomark _)) (pw_and1 (PW.pt (pw_or (pt_cmpR op_ne (pv 7) pe_str (nomark _)) (pw_or1 (pt_cmpR op_eq (pv 5) (pe_ix ix_tup (pv 6) pe_int (fun _ _ => rfl)) (nomark _)))))))) pe_int pe_non)) (pss_cons (ps_if (pt_cmpR op_gt (pv 5) pe_int (nomark _)) (pss_one (ps_ret (pe_tup (pa_cons (pe_tup (pa_cons (pv 3) (pa_cons (pv 4) (pa_cons (pe_op op_sub (pv 5) pe_int) pa_nil)))) (pa_cons pe_bl (pa_cons (pv 8) pa_nil)))))) pss_nil) (pss_cons (ps_set (i := 9) scstep.nd rfl (Or.inl rfl) (pe_ix ix_tup (pv 6) (pe_op op_sub (pe_callB k_len (by rfl) G.len PySem.boot_len (pa_cons (pv 6) pa_nil)) pe_int) (fun _ _ => rfl))) (pss_cons (ps_if (pt_cmpR op_eq (pv 7) pe_str (nomark _)) (pss_cons (ps_set (i := 8) scstep.nd rfl (Or.inl rfl) (C8.pe_c c_exit_of hr (by decide) rfl (pa_cons (pe_ix ix_tup (pv 6) pe_int (fun _ _ => rfl)) (pa_cons (pv 2) pa_nil)))) (pss_one (ps_set (i := 9) scstep.nd rfl (Or.inl rfl) (pe_ifExp (pt_cmpR op_lt (pv 8) (pe_callB k_len (by rfl) G.len PySem.boot_len (pa_cons (pe_ix ix_tup (pv 6) pe_int (fun _ _ => rfl)) pa_nil)) (nomark _)) (pe_ix ix_tup (pe_ix ix_tup (pe_ix ix_tup (pv 6) pe_int (fun _ _ => rfl)) (pv 8) (fun _ _ => rfl)) pe_int (fun _ _ => rfl)) (pv 9))))) pss_nil) (pss_cons (ps_asg (C8.pe_c c_settle hr (by decide) rfl (pa_cons (pv 0) (pa_cons (pv 9) (pa_cons (C8.pe_c c_kept_by hr (by decide) rfl (pa_cons (pv 6) (pa_cons (pv 4) (pa_cons (pv 2) pa_nil)))) pa_nil)))) (pg_tup rfl (pgs_cons (pg_name (i := 10) scstep.nd rfl (Or.inl rfl)) (pgs_cons (pg_name (i := 11) scstep.nd rfl (Or.inl rfl)) pgs_nil)))) (pss_one (ps_ret (pe_tup (pa_cons (pv 10) (pa_cons (pv 11) (pa_cons (pv 8) pa_nil))))))))))))))), ?_⟩
  rw [show L2.start Nscstep [.ref mc, .ref st, .int cell] = [some (.ref mc), some (.ref st), some (.int cell), none, none, none, none, none, none, none, none, none] from rfl]; try simp only [cxK, cxK2, cxP, cxW, cxPn, cxWn]
  obtain ⟨cm1, cm2, cm3⟩ := CMok
  obtain ⟨_, k, left⟩ := s
  cases h1
  have hst : H st = some (.tup [.int (i : Int), kO k, .int left]) := hst
  have hin : StIn l k left := hin
  have e0 : stepS R.ln cell ⟨some i, k, left⟩ = stepL R.ln l i ⟨some i, k, left⟩ cell := stepS_of rfl hl
  have hw := wayTo_ok wf (cell := cell) hl hin
  have hk := keptBy_ok wf (cell := cell) hl hin ⟨c0, c1⟩
  have hpar := wf.par i l hl
  obtain ⟨dx, lb, lt, xs, b1, b2, b3, b4⟩ := id hmc
  obtain ⟨la, hla⟩ := get_some (l := xs) (i := i) (by rw [b3]; exact get_lt hl)
  obtain ⟨wa, a1, a2⟩ := b4 i la l hla hl
  have hv : atI (xs.map V.ref) (i : Int) = some (.ref la) := at_map hla
  have a1' := a1.h
  -- held
  have held : ∀ (x : V) p H2 a H4, 1 < left → New H H2 p (.tup [.int i, kO k, .int (left - 1)]) → New H2 H4 a (.tup [.ref p, .bl false, x]) → Q (.ref a) H4 := fun x p H2 a H4 g n2 n4 => by
    have e : stepS R.ln cell ⟨some i, k, left⟩ = (⟨some i, k, left - 1⟩, false) := e0.trans (if_pos g)
    refine q a p x H4 (n2.same.trans n4.same) ?_ ?_
    · rw [e]; exact n4.up n2.at_
    · rw [e]; exact n4.at_
  -- the tail: settle
  have tail : ∀ (QQ : VK) (H1 : Hp), ¬ 1 < left → Same H H1 → (∀ a sd c H', Same H1 H' → H' a = some (.tup [.ref sd, .bl c]) → (∀ (x : V) u H'', New H' H'' u (.tup [.ref sd, .bl c, x]) → Q (.ref u) H'') → QQ (.ref a) H') → spPset CM [.ref mc, .int (wayTo l cell), kO (keptBy l k cell)] H1 QQ C8.E0 := fun QQ H1 g s1 kk => by
    have e : stepS R.ln cell ⟨some i, k, left⟩ = settleS R.ln (wayTo l cell) (keptBy l k cell) := e0.trans (if_neg g)
    refine ⟨mc, R, wayTo l cell, keptBy l k cell, rfl, hmc.up s1, wf, hw, hk, fun a sd H' s2 z1 z2 => kk a sd _ H' s2 z2 fun x u H'' n => ?_⟩
    refine q u sd x H'' ((s1.trans s2).trans n.same) ?_ ?_
    · rw [e]; exact n.up z1
    · rw [e]; exact n.at_
  have kept : ∀ (QQ : VK) (H1 : Hp), Same H H1 → (∀ H', Same H1 H' → QQ (kO (keptBy l k cell)) H') → spKept [.ref la, kO k, .int cell] H1 QQ C8.E0 := fun QQ H1 s1 kk => ⟨la, wa, l, k, cell, rfl, s1 _ _ a1', hpar, kk⟩
  repeat walk_at "s"
  rw [decide_eq_false (show ¬ (i : Int) < 0 by omega)]
  repeat walk_at "s"
  cases l with
  | tak t =>
    have h5 : H la = some (.tup [.str Wd.tak.str, .int t]) := a1'
    repeat walk_at "s"
    refine x_ite (fun g => ?_) (fun g => ?_)
    · repeat walk_at "s"
      intro p H2 n2
      repeat walk_at "s"
      intro a H4 n4
      exact held _ p H2 a H4 g n2 n4
    · repeat walk_at "s"
      refine kept _ H (Same.refl _) fun H1 s1 => ?_
      repeat walk_at "s"
      refine tail _ H1 g s1 fun a sd c H2 s2 h2 fin => ?_
      repeat walk_at "s"
      intro u H3 n3
      exact fin _ u H3 n3
  | rst v t =>
    have h5 : H la = some (.tup [.str Wd.rst.str, .int v, .int t]) := a1'
    repeat walk_at "s"
    refine x_ite (fun g => ?_) (fun g => ?_)
    · repeat walk_at "s"
      intro p H2 n2
      repeat walk_at "s"
      intro a H4 n4
      exact held _ p H2 a H4 g n2 n4
    · repeat walk_at "s"
      refine kept _ H (Same.refl _) fun H1 s1 => ?_
      repeat walk_at "s"
      refine tail _ H1 g s1 fun a sd c H2 s2 h2 fin => ?_
      repeat walk_at "s"
      intro u H3 n3
      exact fin _ u H3 n3
  | cap v t =>
    have h5 : H la = some (.tup [.str Wd.cap.str, .int v, .int t]) := a1'
    repeat walk_at "s"
    refine x_ite (fun g => ?_) (fun g => ?_)
    · repeat walk_at "s"
      intro p H2 n2
      repeat walk_at "s"
      intro a H4 n4
      exact held _ p H2 a H4 g n2 n4
    · repeat walk_at "s"
      refine kept _ H (Same.refl _) fun H1 s1 => ?_
      repeat walk_at "s"
      refine tail _ H1 g s1 fun a sd c H2 s2 h2 fin => ?_
      repeat walk_at "s"
      intro u H3 n3
      exact fin _ u H3 n3
  | skp v t =>
    have h5 : H la = some (.tup [.str Wd.skp.str, .int v, .int t]) := a1'
    repeat walk_at "s"
    refine x_ite (fun g => ?_) (fun g => ?_)
    · repeat walk_at "s"
      intro p H2 n2
      repeat walk_at "s"
      intro a H4 n4
      exact held _ p H2 a H4 g n2 n4
    · repeat walk_at "s"
      refine kept _ H (Same.refl _) fun H1 s1 => ?_
      repeat walk_at "s"
      refine tail _ H1 g s1 fun a sd c H2 s2 h2 fin => ?_
      repeat walk_at "s"
      intro u H3 n3
      exact fin _ u H3 n3
  | jmp v t =>
    have h5 : H la = some (.tup [.str Wd.jmp.str, .int v, .int t]) := a1'
    repeat walk_at "s"
    refine x_ite (fun gj => ?_) (fun gj => ?_)
    · repeat walk_at "s"
      refine x_ite (fun g => ?_) (fun g => ?_)
      · repeat walk_at "s"
        intro p H2 n2
        repeat walk_at "s"
        intro a H4 n4
        exact held _ p H2 a H4 g n2 n4
      · repeat walk_at "s"
        refine kept _ H (Same.refl _) fun H1 s1 => ?_
        repeat walk_at "s"
        refine tail _ H1 g s1 fun a sd c H2 s2 h2 fin => ?_
        repeat walk_at "s"
        intro u H3 n3
        exact fin _ u H3 n3
    · repeat walk_at "s"
      refine x_ite (fun g => ?_) (fun g => ?_)
      · repeat walk_at "s"
        intro p H2 n2
        repeat walk_at "s"
        intro a H4 n4
        exact held _ p H2 a H4 g n2 n4
      · repeat walk_at "s"
        refine kept _ H (Same.refl _) fun H1 s1 => ?_
        repeat walk_at "s"
        refine tail _ H1 g s1 fun a sd c H2 s2 h2 fin => ?_
        repeat walk_at "s"
        intro u H3 n3
        exact fin _ u H3 n3
  | cas ws o =>
    have h5 : H la = some (.tup [.str Wd.cas.str, .ref wa, .int o]) := a1'
    obtain ⟨rs, g1, g2⟩ := a2 ws o rfl
    have hws : ws.length ≤ 6 := hpar.2.2
    have g1' : H wa = some (.tup (rs.map V.ref)) := g1.h
    have hlen := g2.1
    repeat walk_at "s"
    refine x_ite (fun g => ?_) (fun g => ?_)
    · repeat walk_at "s"
      intro p H2 n2
      repeat walk_at "s"
      intro a H4 n4
      exact held _ p H2 a H4 g n2 n4
    · repeat walk_at "s"
      refine ⟨wa, rs, ws, cell, rfl, g1', g2, hws, fun H1 s1 => ?_⟩
      have h51 := s1 _ _ h5
      have g11 := s1 _ _ g1'
      have hex := exitN_le cell ws
      have ew := exit_way cell o ws
      repeat walk_at "s"
      rw [List.length_map, hlen]
      refine x_ite (fun hx => ?_) (fun hx => ?_)
      · obtain ⟨p, hp⟩ := get_some (l := ws) (i := exitN cell ws) (by omega)
        obtain ⟨r, hr'⟩ := get_some (l := rs) (i := exitN cell ws) (by omega)
        have hv2 : atI (rs.map V.ref) (exitN cell ws : Int) = some (.ref r) := at_map hr'
        have hrp : H1 r = some (.tup [.int p.1, .int p.2]) := s1 _ _ (g2.2 _ r p hr' hp).h
        have e2 : wayTo (.cas ws o) cell = p.2 := ew.1 p hp
        rw [e2] at tail
        repeat walk_at "s"
        refine kept _ H1 s1 fun H5 s5 => ?_
        repeat walk_at "s"
        refine tail _ H5 g (s1.trans s5) fun a sd c H2 s2 h2 fin => ?_
        repeat walk_at "s"
        intro u H3 n3
        exact fin _ u H3 n3
      · have e2 : wayTo (.cas ws o) cell = o := ew.2 (by omega)
        rw [e2] at tail
        repeat walk_at "s"
        refine kept _ H1 s1 fun H5 s5 => ?_
        repeat walk_at "s"
        refine tail _ H5 g (s1.trans s5) fun a sd c H2 s2 h2 fin => ?_
        repeat walk_at "s"
        intro u H3 n3
        exact fin _ u H3 n3
  | set v t => exact hin.2.2.elim
  | upt v t u => exact hin.2.2.elim
  | cut => exact hin.2.2.elim
  | rfs => exact hin.2.2.elim
/-- one hop -/
def spHop (CM : Addr) : Sp := fun vs H Q _ => ∃ (mc st : Addr) (R : Rd) (s : St) (n : Nat) (cell : Int), vs = [.ref mc, .ref st, .int n, .int cell] ∧ MachAt H CM mc R ∧ WF R ∧ H st = some (stP s) ∧ Live R.ln s ∧ 0 ≤ cell ∧ cell ≤ 6 ∧ 0 < n ∧
  ∀ (a sd : Addr) (j : Nat) (H' : Hp), Same H H' → j < n → Quiet R.ln cell j s → H' sd = some (stP (iter R.ln cell (j + 1) s)) → H' a = some (.tup [.ref sd, .int ((j + 1 : Nat) : Int), .bl (stepS R.ln cell (iter R.ln cell j s)).2]) → Q (.ref a) H'
theorem ok_hop {f : Addr} {fd : FuncData} (F : L2.Fun K "hop" "hop" (topS 38) f fd) (m : mg "hop" = some (.ref f)) (b : Binds K fd ["machine", "state", "count", "cell"] []) (G : Gm K mg) (c_step : C8.Cal P w K mg base 2 "step" (spPstep CM) []) : C8.Cal P w K mg base 3 "hop" (spHop CM) [] := by
  refine calN F m b schop (fun vs H Q E h => ?_) (fun cdv A outer s H vs Q E hr h => ?_)
  · obtain ⟨mc, st, R, s, n, cell, rfl, _⟩ := h
    rfl
  obtain ⟨mc, st, R, s, n, cell, rfl, hmc, wf, hst, lv, c0, c1, hn, q⟩ := h
  refine ⟨_, (pss_cons (ps_asg (pv 1) (pg_tup rfl (pgs_cons (pg_name (i := 4) schop.nd rfl (Or.inl rfl)) (pgs_cons (pg_name (i := 5) schop.nd rfl (Or.inl rfl)) (pgs_cons (pg_name (i := 6) schop.nd rfl (Or.inl rfl)) pgs_nil))))) (pss_cons (ps_if (pt_cmpR op_gt (pv 6) pe_int (nomark _)) (pss_cons (ps_set (i := 7) schop.nd rfl (Or.inl rfl) (pe_callB (k_min2 rfl) (by rfl) G.min (by decide +kernel) (pa_cons (pe_op op_sub (pv 6) pe_int) (pa_cons (pv 2) pa_nil)))) (pss_one (ps_ret (pe_tup (pa_cons (pe_tup (pa_cons (pv 4) (pa_cons (pv 5) (pa_cons (pe_op op_sub (pv 6) (pv 7)) pa_nil)))) (pa_cons (pv 7) (pa_cons pe_bl pa_nil))))))) pss_nil) (pss_cons (ps_asg (C8.pe_c c_step hr (by decide) rfl (pa_cons (pv 0) (pa_cons (pv 1) (pa_cons (pv 3) pa_nil)))) (pg_tup rfl (pgs_cons (pg_name (i := 8) schop.nd rfl (Or.inl rfl)) (pgs_cons (pg_name (i := 9) schop.nd rfl (Or.inl rfl)) (pgs_cons (pg_name (i := 10) schop.nd rfl (Or.inl rfl)) pgs_nil))))) (pss_one (ps_ret (pe_tup (pa_cons (pv 8) (pa_cons pe_int (pa_cons (pv 9) pa_nil))))))))), ?_⟩
  rw [show L2.start Nschop [.ref mc, .ref st, .int n, .int cell] = [some (.ref mc), some (.ref st), some (.int n), some (.int cell), none, none, none, none, none, none, none] from rfl]; try simp only [cxK, cxK2, cxP, cxW, cxPn, cxWn]
  obtain ⟨i, l, e1, hl, hin⟩ := id lv
  repeat walk_at "s"
  refine x_ite (fun g => ?_) (fun g => ?_)
  · repeat walk_at "s"
    obtain ⟨j, hj⟩ : ∃ j : Nat, (if (n : Int) < s.left - 1 then (n : Int) else s.left - 1) = ((j + 1 : Nat) : Int) := ⟨(if (n : Int) < s.left - 1 then (n : Int) else s.left - 1).toNat - 1, by split <;> omega⟩
    have hjn : j < n ∧ (j : Int) + 1 < s.left := by
      split at hj <;> omega
    rw [hj]
    repeat walk_at "s"
    intro p H2 n2
    repeat walk_at "s"
    intro a H3 n3
    refine q a p j H3 (n2.same.trans n3.same) hjn.1 (fun k hk => (hold_step e1 hl k (by omega)).2) ?_ ?_
    · rw [hold_it e1 hl (j + 1) (by omega)]
      exact n3.up n2.at_
    · rw [(hold_step e1 hl j hjn.2).1]
      exact n3.at_
  · repeat walk_at "s"
    refine ⟨mc, st, R, s, cell, rfl, hmc, wf, hst, lv, c0, c1, fun a sd x H1 s1 z1 z2 => ?_⟩
    repeat walk_at "s"
    intro u H2 n2
    exact q u sd 0 H2 (s1.trans n2.same) hn (fun _ h => absurd h (Nat.not_lt_zero _)) (n2.up z1) n2.at_
end
end
end K21
end

section
set_option maxRecDepth 100000
set_option maxHeartbeats 4000000
namespace K21
open PySem PySem.Spec PyProof.Rows L2
noncomputable section
local macro_rules | `(tactic| walk_at "hp") => `(tactic| first
  | assumption
  | ((with_reducible refine' At.h ?q); (case q => assumption))
  | ((with_reducible refine' New.at_ ?q); (case q => assumption))
  | ((with_reducible refine' Chg.at_ ?q); (case q => assumption))
  | ((with_reducible refine' New.up ?n ?q); (case n => assumption); (case q => walk_at "hp"))
  | ((with_reducible refine' Same.up ?n ?q); (case n => assumption); (case q => walk_at "hp")))
local macro_rules | `(tactic| walk_at "sz") => `(tactic| first | exact Nat.le_of_ble_eq_true rfl | assumption | omega)
local macro_rules | `(tactic| walk_at "i") => `(tactic| first
  | with_reducible refine' x_I0 ?_
  | ((with_reducible refine' x_I ?c ?_); (case c => first | assumption | (show (_ : Int) ≠ 0; omega) | exact .inr ⟨by decide, by decide⟩ | exact .inl ⟨by decide, by decide⟩ | (refine ⟨?_, ?_⟩ <;> first | decide | omega)))
  | with_reducible refine' x_eqI ?_
  | with_reducible refine' x_neI ?_
  | with_reducible refine' x_eqS ?_
  | with_reducible refine' x_neS ?_
  | with_reducible refine' x_isN ?_
  | with_reducible refine' x_notN ?_
  | with_reducible refine' x_U ?_
  | with_reducible refine' x_int ?_
  | with_reducible refine' x_intB ?_
  | with_reducible refine' x_min2 ?_
  | with_reducible refine' x_max2 ?_
  | ((with_reducible refine' x_ixLh ?h ?v ?_); (case h => walk_at "hp"); (case v => first | exact rfl | assumption))
  | ((with_reducible refine' x_ixTh ?h ?v ?_); (case h => walk_at "hp"); (case v => first | exact rfl | assumption))
  | ((with_reducible refine' x_lenL ?h ?_); (case h => walk_at "hp"))
  | ((with_reducible refine' x_lenT ?h ?_); (case h => walk_at "hp"))
  | ((with_reducible refine' x_gtuph ?h ?l ?_); (case h => walk_at "hp"); (case l => exact rfl))
  | ((with_reducible refine' x_BmAh ?h ?_); (case h => walk_at "hp"))
  | ((with_reducible refine' x_BmA0h ?h ?_); (case h => walk_at "hp"))
  | ((with_reducible refine' x_inStr ?h ?_); (case h => walk_at "hp"))
  | ((with_reducible refine' x_ninStr ?h ?_); (case h => walk_at "hp"))
  | ((with_reducible refine' x_inInt ?h ?_); (case h => walk_at "hp"))
  | ((with_reducible refine' x_ninInt ?h ?_); (case h => walk_at "hp"))
  | ((with_reducible refine' x_inL ?h ?f ?g ?_); (case h => walk_at "hp"); (case f => exact rfl); (case g => first | exact rfl | assumption))
  | ((with_reducible refine' x_inR ?h ?f ?g ?_); (case h => assumption); (case f => exact rfl); (case g => exact rfl))
  | ((with_reducible refine' x_inT ?h ?f ?g ?_); (case h => walk_at "hp"); (case f => exact rfl); (case g => first | exact rfl | assumption))
  | ((with_reducible refine' x_notInL ?h ?f ?g ?_); (case h => walk_at "hp"); (case f => exact rfl); (case g => first | exact rfl | assumption))
  | ((with_reducible refine' x_setL ?h ?j ?_); (case h => walk_at "hp"); (case j => first | exact rfl | assumption))
  | ((with_reducible refine' x_append ?h ?l ?_); (case h => walk_at "hp"); (case l => walk_at "sz"))
  | ((with_reducible refine' x_neNil ?h ?g ?_); (case h => walk_at "hp"); (case g => walk_at "hp"))
  | ((with_reducible refine' x_eqNil ?h ?g ?_); (case h => walk_at "hp"); (case g => walk_at "hp"))
  | ((with_reducible refine' x_DgA ?h ?v ?_); (case h => walk_at "hp"); (case v => first | exact stK_at _ _ _ | exact bkK_first _ _ | exact bkK_lines _ _ | exact stK_kept _ _ _ | exact stK_left _ _ _ | assumption))
  | ((with_reducible refine' x_FldA ?h ?c ?n ?l ?_); (case h => walk_at "hp"); (case c => assumption); (case n => assumption); (case l => first | exact rfl | assumption))
  | ((with_reducible refine' x_DspS ?h ?_); (case h => walk_at "hp"))
  | ((with_reducible refine' x_AlT ?h ?_); (case h => walk_at "sz"))
  | ((with_reducible refine' x_AlL ?h ?_); (case h => walk_at "sz"))
  | ((with_reducible refine' x_Rg1 ?a ?b ?_); (case a => omega); (case b => omega))
  | ((with_reducible refine' x_Rg2 ?a ?b ?c ?d ?_); (case a => omega); (case b => omega); (case c => omega); (case d => omega))
  | with_reducible refine' x_AlO ?_)
local macro_rules | `(tactic| walk_at "s") => `(tactic| first
  | with_reducible refine' x_seq ?_
  | with_reducible refine' x_asg ?_
  | with_reducible refine' x_gname ?_
  | ((with_reducible refine' x_var ?h ?_); (case h => exact rfl))
  | with_reducible refine' x_c ?_
  | with_reducible refine' x_op ?_
  | with_reducible refine' x_cons ?_
  | with_reducible refine' x_nil ?_
  | with_reducible refine' x_cb ?_
  | with_reducible refine' x_ret ?_
  | with_reducible refine' x_ifS ?_
  | with_reducible refine' x_test ?_
  | with_reducible refine' x_B ?_
  | with_reducible refine' x_bl ?_
  | with_reducible refine' x_if ?_
  | with_reducible refine' x_call ?_
  | with_reducible refine' x_tup ?_
  | with_reducible refine' x_lst ?_
  | with_reducible refine' x_gcons ?_
  | with_reducible refine' x_gnil ?_
  | with_reducible refine' x_gsub ?_
  | with_reducible refine' x_next ?_
  | with_reducible refine' x_drop ?_
  | with_reducible refine' x_and ?_
  | with_reducible refine' x_or ?_
  | with_reducible refine' x_not ?_
  | with_reducible refine' x_andV ?_
  | with_reducible refine' x_orV ?_
  | with_reducible refine' x_un ?_
  | with_reducible refine' x_chain ?_
  | with_reducible refine' x_sfld ?_
  | with_reducible refine' x_par ?_
  | with_reducible refine' x_par2 ?_
  | with_reducible refine' x_par3 ?_
  | with_reducible refine' x_par33 ?_
  | with_reducible refine' x_fld ?_
  | with_reducible refine' x_meth ?_
  | with_reducible refine' x_bm ?_
  | with_reducible refine' x_bm0 ?_
  | with_reducible refine' x_forL ?_
  | with_reducible refine' x_forT ?_
  | with_reducible refine' x_forR1 ?_
  | with_reducible refine' x_forET ?_
  | with_reducible refine' x_forEL ?_
  | with_reducible refine' x_forR2 ?_
  | with_reducible refine' x_lcL ?_
  | with_reducible refine' x_lcT ?_
  | with_reducible refine' x_lcR1 ?_
  | with_reducible refine' x_lcR2 ?_
  | with_reducible refine' x_dnew ?_
  | with_reducible refine' x_retN ?_
  | with_reducible refine' x_ff ?_
  | with_reducible refine' x_lrg1 ?_
  | with_reducible refine' x_disp ?_
  | with_reducible refine' x_pnil ?_
  | with_reducible refine' x_pcons ?_
  | with_reducible refine' x_dget ?_
  | with_reducible refine' x_dput ?_
  | with_reducible refine' x_dnewN ?_
  | with_reducible refine' x_nin ?_
  | with_reducible refine' x_nget ?_
  | with_reducible refine' x_nput ?_
  | ((with_reducible refine' x_yes ?e ?_); (case e => first | decide +kernel | exact not_int_non _ | exact not_str_non _))
  | ((with_reducible refine' x_no ?e ?_); (case e => first | decide +kernel | exact int_non _ | exact str_non _))
  | with_reducible refine' x_lrg2 ?_
  | with_reducible refine' x_tt ?_
  | with_reducible refine' x_break ?_
  | walk_at "i")

def Nscadvance : List Str := ["machine", "state", "count", "cell", "done", "many", "last", "seen", "before", "cuts_before", "times", "passed", "is_cut"]
theorem scadvance : FnScope Nscadvance ["machine", "state", "count", "cell"] (defScope (topS 39)) := ⟨rfl, rfl, rfl, by decide +kernel, rfl, by decide +kernel, by decide +kernel⟩
theorem Quiet.shift {L : List Ln} {cell : Int} {s : St} {n d : Nat} (q : Quiet L cell n s) (hd : d ≤ n) : Quiet L cell (n - d) (iter L cell d s) := fun j hj => by
  rw [← iter_add]
  exact q (d + j) (by omega)
theorem Quiet.join {L : List Ln} {cell : Int} {s : St} {d j : Nat} (q : Quiet L cell d s) (r : Quiet L cell j (iter L cell d s)) : Quiet L cell (d + j) s := fun i hi => by
  by_cases h : i < d
  · exact q i h
  · have e : iter L cell i s = iter L cell (i - d) (iter L cell d s) := by rw [← iter_add]; congr 1; omega
    rw [e]
    exact r (i - d) (by omega)
section
variable {P : Program} {w : World} {K : PySem.W.Frag} {mg : Str → Option Value} {base : Heap} {CM rd : Addr}
def spAdv (CM : Addr) : Sp := fun vs H Q _ => ∃ (mc st : Addr) (R : Rd) (s : St) (n : Nat) (cell : Int), vs = [.ref mc, .ref st, .int n, .int cell] ∧ MachAt H CM mc R ∧ WF R ∧ H st = some (stP s) ∧ Live R.ln s ∧ 0 ≤ cell ∧ cell ≤ 6 ∧ n < 2 ^ 110 ∧ Quiet R.ln cell n s ∧
  ∀ (a sd : Addr) (v1 v2 v3 : V) (H' : Hp), Same H H' → H' sd = some (stP (iter R.ln cell n s)) → H' a = some (.tup [.ref sd, v1, v2, v3]) → Q (.ref a) H'
theorem ok_adv {f : Addr} {fd : FuncData} (F : L2.Fun K "advance" "advance" (topS 39) f fd) (m : mg "advance" = some (.ref f)) (b : Binds K fd ["machine", "state", "count", "cell"] []) (G : Gm K mg) (c_hop : C8.Cal P w K mg base 3 "hop" (spHop CM) []) : C8.Cal P w K mg base 4 "advance" (spAdv CM) [] := by
  refine calN F m b scadvance (fun vs H Q E h => ?_) (fun cdv A outer s H vs Q E hr h => ?_)
  · obtain ⟨mc, st, R, s, n, cell, rfl, _⟩ := h
    rfl
  obtain ⟨mc, st, R, s, n, cell, rfl, hmc, wf, hst, hs, c0, c1, hN, hq, q⟩ := h
  refine ⟨_, (pss_cons (ps_asg (pe_tup (pa_cons pe_int (pa_cons pe_int (pa_cons pe_non pa_nil)))) (pg_tup rfl (pgs_cons (pg_name (i := 4) scadvance.nd rfl (Or.inl rfl)) (pgs_cons (pg_name (i := 5) scadvance.nd rfl (Or.inl rfl)) (pgs_cons (pg_name (i := 6) scadvance.nd rfl (Or.inl rfl)) pgs_nil))))) (pss_cons (ps_set (i := 7) scadvance.nd rfl (Or.inl rfl) k_dnewN) (pss_cons (ps_while PassesOwn.never (PW.pt (pw_and (pt_cmpR op_lt (pv 4) (pv 2) (nomark _)) (pw_and1 (pt_cmpR op_ge (pe_ix ix_tup (pv 1) pe_int (fun _ _ => rfl)) pe_int (nomark _))))) (pss_one (ps_if (pt_cmp (k_dinN (hu_of hr) (pv 1) (pv 7))) (pss_cons (ps_asg (k_dgetN (hu_of hr) (pv 7) (pv 1) (fun _ _ => rfl)) (pg_tup rfl (pgs_cons (pg_name (i := 8) scadvance.nd rfl (Or.inl rfl)) (pgs_cons (pg_name (i := 9) scadvance.nd rfl (Or.inl rfl)) pgs_nil)))) (pss_cons (ps_set (i := 10) scadvance.nd rfl (Or.inl rfl) (pe_op op_fdivW (pe_op op_sub (pv 2) (pv 4)) (pe_op op_sub (pv 4) (pv 8)))) (pss_cons (ps_if (pt_cmpR op_gt (pv 5) (pv 9) (nomark _)) (pss_one (ps_set (i := 6) scadvance.nd rfl (Or.inl rfl) (pe_op op_add (pv 6) (pe_op op_mulW (pv 10) (pe_op op_sub (pv 4) (pv 8)))))) pss_nil) (pss_cons (ps_set (i := 5) scadvance.nd rfl (Or.inl rfl) (pe_op op_add (pv 5) (pe_op op_mulW (pv 10) (pe_op op_sub (pv 5) (pv 9))))) (pss_cons (ps_set (i := 4) scadvance.nd rfl (Or.inl rfl) (pe_op op_add (pv 4) (pe_op op_mulW (pv 10) (pe_op op_sub (pv 4) (pv 8))))) (pss_one (ps_set (i := 7) scadvance.nd rfl (Or.inl rfl) k_dnewN))))))) (pss_cons (k_dputN (hu_of hr) (pv 7) (pv 1) (pe_tup (pa_cons (pv 4) (pa_cons (pv 5) pa_nil))) rfl) (pss_cons (ps_asg (C8.pe_c c_hop hr (by decide) rfl (pa_cons (pv 0) (pa_cons (pv 1) (pa_cons (pe_op op_sub (pv 2) (pv 4)) (pa_cons (pv 3) pa_nil))))) (pg_tup rfl (pgs_cons (pg_name (i := 1) scadvance.nd rfl (Or.inl rfl)) (pgs_cons (pg_name (i := 11) scadvance.nd rfl (Or.inl rfl)) (pgs_cons (pg_name (i := 12) scadvance.nd rfl (Or.inl rfl)) pgs_nil))))) (pss_cons (ps_set (i := 4) scadvance.nd rfl (Or.inl rfl) (pe_op op_add (pv 4) (pv 11))) (pss_cons (ps_set (i := 5) scadvance.nd rfl (Or.inl rfl) (pe_op op_add (pv 5) (pe_callTy k_int (by rfl) G.int (by decide +kernel) (pa_cons (pv 12) pa_nil)))) (pss_one (ps_set (i := 6) scadvance.nd rfl (Or.inl rfl) (pe_ifExp (pt_val (pv 12)) (pv 4) (pv 6))))))))))) (pss_one (ps_ret (pe_tup (pa_cons (pv 1) (pa_cons (pv 4) (pa_cons (pv 5) (pa_cons (pv 6) pa_nil)))))))))), ?_⟩
  rw [show L2.start Nscadvance [.ref mc, .ref st, .int n, .int cell] = [some (.ref mc), some (.ref st), some (.int n), some (.int cell), none, none, none, none, none, none, none, none, none] from rfl]; try simp only [cxK, cxK2, cxP, cxW, cxPn, cxWn]
  repeat walk_at "s"
  intro u0 H0 nu
  repeat walk_at "s"
  intro se0 H1 ne0
  have hse0 : H se0 = none := by
    cases hz : H se0 with
    | none => rfl
    | some o => exact absurd (nu.same _ _ hz) (by rw [ne0.fresh]; exact nofun)
  have s01 := nu.same.trans ne0.same
  repeat walk_at "s"
  refine x_while (fun m σ H' => ∃ (d : Nat) (mn : Int) (sa se : Addr) (es : List SE) (x8 x9 x10 x11 x12 : Option V), σ = [some (.ref mc), some (.ref sa), some (.int n), some (.int cell), some (.int d), some (.int mn), some .non, some (.ref se), x8, x9, x10, x11, x12] ∧
    mn = 0 ∧ Same H H' ∧ d ≤ n ∧ H' sa = some (stP (iter R.ln cell d s)) ∧ H se = none ∧ SD P w keyP R.ln cell s H' se es d ∧ (∀ e ∈ es, ∃ va, e.2.2 = .ref va ∧ H' va = some (.tup [.int e.1, .int 0])) ∧ m = 2 * (n - d) + (if es = [] then 0 else 1)) (2 * n) ?_ ?_
  · exact ⟨0, 0, st, se0, [], none, none, none, none, none, rfl, rfl, s01, Nat.zero_le _, s01 _ _ hst, hse0, SD.nil ne0, (fun _ h => nomatch h), rfl⟩
  · rintro mm σ H2 ⟨d, mn, sa, se, es, x8, x9, x10, x11, x12, rfl, rfl, s2, hdn, hsa, hse, sd, hva, hm⟩
    have lv := hq.live wf ⟨c0, c1⟩ hs d hdn
    obtain ⟨i, l, e1, hl, hin⟩ := id lv
    have hsa' := hsa
    have e2 : lnI (iter R.ln cell d s).ln = (i : Int) := by rw [e1]; rfl
    repeat walk_at "s"
    refine x_ite (fun h0 => ?_) (fun h0 => ?_)
    · repeat walk_at "s"
      rw [decide_eq_true (show (0 : Int) ≤ lnI (iter R.ln cell d s).ln by omega)]
      refine x_whT ?_
      repeat walk_at "s"
      have key2 : H2 sa = some (.tup ((keyP (iter R.ln cell d s)).map nV)) := by rw [keyP_map]; exact hsa
      refine x_NiA sd.at_ sd.ks key2 ?_
      repeat walk_at "s"
      refine x_iteB (fun hv => ?_) (fun hv => ?_)
      · obtain ⟨v, hv⟩ := Option.isSome_iff_exists.mp hv
        obtain ⟨⟨a, qa, v'⟩, he, rfl, hk⟩ := valN_some hv
        have had : a < d := sd.lt _ he
        obtain ⟨va, hva1, hva2⟩ := hva _ he
        have hva1 : v' = .ref va := hva1
        subst hva1
        have hva3 : H2 va = some (.tup [.int a, .int 0]) := hva2
        have ring : iter R.ln cell a s = iter R.ln cell d s := keyP_inj hk
        obtain ⟨g, hg⟩ : ∃ g : Nat, g = d - a := ⟨_, rfl⟩
        obtain ⟨rr, hrr⟩ : ∃ rr : Nat, rr = n - d := ⟨_, rfl⟩
        have eg : (d : Int) - (a : Int) = (g : Int) := by omega
        have er : (n : Int) - (d : Int) = (rr : Int) := by omega
        have hdv : CDivW ((n : Int) - (d : Int)) ((d : Int) - (a : Int)) := by rw [eg]; exact wide_div (b := 110) (by omega) (nat_bd (by omega : g ≤ n) hN) (by decide) (by decide)
        have eq : ((n : Int) - (d : Int)) / ((d : Int) - (a : Int)) = ((rr / g : Nat) : Int) := by rw [eg, er]; rfl
        have hqn : rr / g ≤ n := Nat.le_trans (Nat.div_le_self ..) (by omega)
        have hm1 : CMulW (((n : Int) - (d : Int)) / ((d : Int) - (a : Int))) ((d : Int) - (a : Int)) := by rw [eq, eg]; exact wide_mul (a := 110) (b := 110) (nat_bd hqn hN) (nat_bd (by omega : g ≤ n) hN) (by decide) (by decide) (by decide)
        have hm2 : CMulW (((n : Int) - (d : Int)) / ((d : Int) - (a : Int))) ((0 : Int) - 0) := by rw [eq]; exact wide_mul (a := 110) (b := 110) (nat_bd hqn hN) (by decide) (by decide) (by decide) (by decide)
        repeat walk_at "s"
        refine x_NgA sd.at_ sd.ks key2 hv ?_
        repeat walk_at "s"
        intro se2 H4 n4
        have hdm : (d : Int) + ((n : Int) - (d : Int)) / ((d : Int) - (a : Int)) * ((d : Int) - (a : Int)) = ((d + rr / g * g : Nat) : Int) := by rw [eq, eg]; rfl
        rw [hdm]
        repeat walk_at "s"
        have hdiv : rr / g * g ≤ rr := Nat.div_mul_le_self rr g
        have hes : es ≠ [] := List.ne_nil_of_mem he
        rw [if_neg hes] at hm
        refine ⟨2 * (n - (d + rr / g * g)), by omega, d + rr / g * g, _, sa, se2, [], _, _, _, _, _, rfl, ?_, s2.trans n4.same, by omega, ?_, ?_, SD.nil n4, (fun _ h => nomatch h), rfl⟩
        · rw [Int.sub_self, Int.mul_zero] <;> rfl
        · rw [hg, iter_ring ring had]
          exact n4.up hsa
        · cases hz : H se2 with
          | none => rfl
          | some o => exact absurd (s2 _ _ hz) (by rw [n4.fresh]; exact nofun)
      · have hn' : valN (kvOf keyP R.ln cell s es) (keyP (iter R.ln cell d s)) = none := by
          cases hh : valN (kvOf keyP R.ln cell s es) (keyP (iter R.ln cell d s)) with
          | none => rfl
          | some v => rw [hh] at hv; exact nomatch hv
        have hes := sd.len wf ⟨c0, c1⟩ hs hq hdn
        repeat walk_at "s"
        intro va H5 n5
        have sd5 := sd.up n5.same
        have key5 := n5.up key2
        have va5 := n5.at_
        have sa5 := n5.up hsa
        repeat walk_at "s"
        refine x_NpA sd5.at_ sd5.ks key5 (by unfold kvOf; rw [List.length_map, sizeLine_eq]; omega) hn' fun H6 c6 ks6 => ?_
        have s06 : Same H H6 := Same.chg (s2.trans n5.same) hse c6
        have tupne : ∀ {x : Addr} {xs : List V}, H5 x = some (.tup xs) → H6 x = some (.tup xs) := fun h => c6.up (ne_of h sd5.at_ (fun z => nomatch (show HO.tup _ = HO.ext _ from z))) h
        have sa6 := tupne sa5
        have sd6 : ∀ d', d < d' → SD P w keyP R.ln cell s H6 se (es ++ [(d, sa, .ref va)]) d' := fun d' hd' => sd5.put hn' c6.at_ ks6 hd'
        repeat walk_at "s"
        rw [show (n : Int) - (d : Int) = ((n - d : Nat) : Int) by omega]
        refine ⟨mc, sa, R, iter R.ln cell d s, n - d, cell, rfl, hmc.up s06, wf, sa6, lv, c0, c1, by omega, fun ta sb j H7 s7 hj hqj hsb hta => ?_⟩
        have ev := evS_none (hq (d + j) (by omega))
        rw [← iter_add, ev.1] at hta
        rw [← iter_add] at hsb
        repeat walk_at "s"
        rw [show (d : Int) + ((j + 1 : Nat) : Int) = ((d + (j + 1) : Nat) : Int) by omega]
        refine ⟨2 * (n - (d + (j + 1))) + 1, ?_, d + (j + 1), _, sb, se, es ++ [(d, sa, .ref va)], _, _, _, _, _, rfl, rfl, s06.trans s7, by omega, hsb, hse, (sd6 _ (by omega)).up s7, fun e he => ?_, ?_⟩
        · split at hm <;> omega
        · rcases List.mem_append.mp he with he | he
          · obtain ⟨v2, g1, g2⟩ := hva e he
            exact ⟨v2, g1, s7 _ _ (tupne (n5.up g2))⟩
          · rw [List.mem_singleton.mp he]
            exact ⟨va, rfl, s7 _ _ (tupne va5)⟩
        · rw [if_neg (by simp)]
    · have hd : d = n := by omega
      refine x_whF ?_
      repeat walk_at "s"
      intro a H3 n3
      exact q a sa _ _ _ H3 (s2.trans n3.same) (by rw [← hd]; exact n3.up hsa) n3.at_
end
end
end K21
end

section
set_option maxRecDepth 100000
set_option maxHeartbeats 4000000
namespace K21
open PySem PySem.Spec PyProof.Rows L2
noncomputable section
local macro_rules | `(tactic| walk_at "hp") => `(tactic| first
  | assumption
  | ((with_reducible refine' At.h ?q); (case q => assumption))
  | ((with_reducible refine' New.at_ ?q); (case q => assumption))
  | ((with_reducible refine' Chg.at_ ?q); (case q => assumption))
  | ((with_reducible refine' New.up ?n ?q); (case n => assumption); (case q => walk_at "hp"))
  | ((with_reducible refine' Same.up ?n ?q); (case n => assumption); (case q => walk_at "hp")))
local macro_rules | `(tactic| walk_at "sz") => `(tactic| first | exact Nat.le_of_ble_eq_true rfl | assumption | omega)
local macro_rules | `(tactic| walk_at "i") => `(tactic| first
  | with_reducible refine' x_I0 ?_
  | ((with_reducible refine' x_I ?c ?_); (case c => first | assumption | (show (_ : Int) ≠ 0; omega) | exact .inr ⟨by decide, by decide⟩ | exact .inl ⟨by decide, by decide⟩ | (refine ⟨?_, ?_⟩ <;> first | decide | omega)))
  | with_reducible refine' x_eqI ?_
  | with_reducible refine' x_neI ?_
  | with_reducible refine' x_eqS ?_
  | with_reducible refine' x_neS ?_
  | with_reducible refine' x_isN ?_
  | with_reducible refine' x_notN ?_
  | with_reducible refine' x_U ?_
  | with_reducible refine' x_int ?_
  | with_reducible refine' x_intB ?_
  | with_reducible refine' x_min2 ?_
  | with_reducible refine' x_max2 ?_
  | ((with_reducible refine' x_ixLh ?h ?v ?_); (case h => walk_at "hp"); (case v => first | exact rfl | assumption))
  | ((with_reducible refine' x_ixTh ?h ?v ?_); (case h => walk_at "hp"); (case v => first | exact rfl | assumption))
  | ((with_reducible refine' x_lenL ?h ?_); (case h => walk_at "hp"))
  | ((with_reducible refine' x_lenT ?h ?_); (case h => walk_at "hp"))
  | ((with_reducible refine' x_gtuph ?h ?l ?_); (case h => walk_at "hp"); (case l => exact rfl))
  | ((with_reducible refine' x_BmAh ?h ?_); (case h => walk_at "hp"))
  | ((with_reducible refine' x_BmA0h ?h ?_); (case h => walk_at "hp"))
  | ((with_reducible refine' x_inStr ?h ?_); (case h => walk_at "hp"))
  | ((with_reducible refine' x_ninStr ?h ?_); (case h => walk_at "hp"))
  | ((with_reducible refine' x_inInt ?h ?_); (case h => walk_at "hp"))
  | ((with_reducible refine' x_ninInt ?h ?_); (case h => walk_at "hp"))
  | ((with_reducible refine' x_inL ?h ?f ?g ?_); (case h => walk_at "hp"); (case f => exact rfl); (case g => first | exact rfl | assumption))
  | ((with_reducible refine' x_inR ?h ?f ?g ?_); (case h => assumption); (case f => exact rfl); (case g => exact rfl))
  | ((with_reducible refine' x_inT ?h ?f ?g ?_); (case h => walk_at "hp"); (case f => exact rfl); (case g => first | exact rfl | assumption))
  | ((with_reducible refine' x_notInL ?h ?f ?g ?_); (case h => walk_at "hp"); (case f => exact rfl); (case g => first | exact rfl | assumption))
  | ((with_reducible refine' x_setL ?h ?j ?_); (case h => walk_at "hp"); (case j => first | exact rfl | assumption))
  | ((with_reducible refine' x_append ?h ?l ?_); (case h => walk_at "hp"); (case l => walk_at "sz"))
  | ((with_reducible refine' x_neNil ?h ?g ?_); (case h => walk_at "hp"); (case g => walk_at "hp"))
  | ((with_reducible refine' x_eqNil ?h ?g ?_); (case h => walk_at "hp"); (case g => walk_at "hp"))
  | ((with_reducible refine' x_DgA ?h ?v ?_); (case h => walk_at "hp"); (case v => first | exact stK_at _ _ _ | exact bkK_first _ _ | exact bkK_lines _ _ | exact stK_kept _ _ _ | exact stK_left _ _ _ | assumption))
  | ((with_reducible refine' x_FldA ?h ?c ?n ?l ?_); (case h => walk_at "hp"); (case c => assumption); (case n => assumption); (case l => first | exact rfl | assumption))
  | ((with_reducible refine' x_DspS ?h ?_); (case h => walk_at "hp"))
  | ((with_reducible refine' x_AlT ?h ?_); (case h => walk_at "sz"))
  | ((with_reducible refine' x_AlL ?h ?_); (case h => walk_at "sz"))
  | ((with_reducible refine' x_Rg1 ?a ?b ?_); (case a => omega); (case b => omega))
  | ((with_reducible refine' x_Rg2 ?a ?b ?c ?d ?_); (case a => omega); (case b => omega); (case c => omega); (case d => omega))
  | with_reducible refine' x_AlO ?_)
local macro_rules | `(tactic| walk_at "s") => `(tactic| first
  | with_reducible refine' x_seq ?_
  | with_reducible refine' x_asg ?_
  | with_reducible refine' x_gname ?_
  | ((with_reducible refine' x_var ?h ?_); (case h => exact rfl))
  | with_reducible refine' x_c ?_
  | with_reducible refine' x_op ?_
  | with_reducible refine' x_cons ?_
  | with_reducible refine' x_nil ?_
  | with_reducible refine' x_cb ?_
  | with_reducible refine' x_ret ?_
  | with_reducible refine' x_ifS ?_
  | with_reducible refine' x_test ?_
  | with_reducible refine' x_B ?_
  | with_reducible refine' x_bl ?_
  | with_reducible refine' x_if ?_
  | with_reducible refine' x_call ?_
  | with_reducible refine' x_tup ?_
  | with_reducible refine' x_lst ?_
  | with_reducible refine' x_gcons ?_
  | with_reducible refine' x_gnil ?_
  | with_reducible refine' x_gsub ?_
  | with_reducible refine' x_next ?_
  | with_reducible refine' x_drop ?_
  | with_reducible refine' x_and ?_
  | with_reducible refine' x_or ?_
  | with_reducible refine' x_not ?_
  | with_reducible refine' x_andV ?_
  | with_reducible refine' x_orV ?_
  | with_reducible refine' x_un ?_
  | with_reducible refine' x_chain ?_
  | with_reducible refine' x_sfld ?_
  | with_reducible refine' x_par ?_
  | with_reducible refine' x_par2 ?_
  | with_reducible refine' x_par3 ?_
  | with_reducible refine' x_par33 ?_
  | with_reducible refine' x_fld ?_
  | with_reducible refine' x_meth ?_
  | with_reducible refine' x_bm ?_
  | with_reducible refine' x_bm0 ?_
  | with_reducible refine' x_forL ?_
  | with_reducible refine' x_forT ?_
  | with_reducible refine' x_forR1 ?_
  | with_reducible refine' x_forET ?_
  | with_reducible refine' x_forEL ?_
  | with_reducible refine' x_forR2 ?_
  | with_reducible refine' x_lcL ?_
  | with_reducible refine' x_lcT ?_
  | with_reducible refine' x_lcR1 ?_
  | with_reducible refine' x_lcR2 ?_
  | with_reducible refine' x_dnew ?_
  | with_reducible refine' x_retN ?_
  | with_reducible refine' x_ff ?_
  | with_reducible refine' x_lrg1 ?_
  | with_reducible refine' x_disp ?_
  | with_reducible refine' x_pnil ?_
  | with_reducible refine' x_pcons ?_
  | with_reducible refine' x_dget ?_
  | with_reducible refine' x_dput ?_
  | with_reducible refine' x_dnewN ?_
  | with_reducible refine' x_nin ?_
  | with_reducible refine' x_nget ?_
  | with_reducible refine' x_nput ?_
  | ((with_reducible refine' x_yes ?e ?_); (case e => first | decide +kernel | exact not_int_non _ | exact not_str_non _))
  | ((with_reducible refine' x_no ?e ?_); (case e => first | decide +kernel | exact int_non _ | exact str_non _))
  | with_reducible refine' x_lrg2 ?_
  | with_reducible refine' x_tt ?_
  | with_reducible refine' x_break ?_
  | walk_at "i")

def Nschappens : List Str := ["machine", "state", "count", "cell", "done", "seen", "passed", "is_cut"]
theorem schappens : FnScope Nschappens ["machine", "state", "count", "cell"] (defScope (topS 40)) := ⟨rfl, rfl, rfl, by decide +kernel, rfl, by decide +kernel, by decide +kernel⟩
theorem lnI_neg (o : Option Nat) : decide (lnI o < 0) = decide (o = none) := by
  cases o with
  | none => rfl
  | some i =>
    rw [decide_eq_false (p := (some i = none)) (fun z => nomatch z)]
    exact decide_eq_false (by show ¬ (i : Int) < 0; omega)
/-- what one machine tells, in the program's heap -/
def EvP (H : Hp) (R : Rd) (s : St) (cell : Int) (n : Nat) (t : Addr) (w : Option Bool) (d : Nat) (s' : St) : Prop := Evt R.ln cell n s w d s' ∧ ∃ sd, H t = some (.tup [wdO w, .int d, .ref sd]) ∧ H sd = some (stP s')
theorem EvP.up {H H' : Hp} {R : Rd} {s : St} {cell : Int} {n : Nat} {t : Addr} {w : Option Bool} {d : Nat} {s' : St} (h : EvP H R s cell n t w d s') (k : Same H H') : EvP H' R s cell n t w d s' := by
  obtain ⟨e, sd, h1, h2⟩ := h
  exact ⟨e, sd, k _ _ h1, k _ _ h2⟩
theorem EvP.chg {H H' : Hp} {D : Addr} {acc : List V} {o : HO} {R : Rd} {s : St} {cell : Int} {n : Nat} {t : Addr} {w : Option Bool} {d : Nat} {s' : St} (h : EvP H R s cell n t w d s') (hD : H D = some (.lst acc)) (c : Chg H H' D o) : EvP H' R s cell n t w d s' := by
  obtain ⟨e, sd, h1, h2⟩ := h
  exact ⟨e, sd, c.up (ne_of h1 hD (fun z => nomatch z)) h1, c.up (ne_of h2 hD (fun z => nomatch z)) h2⟩
section
variable {P : Program} {w : World} {K : PySem.W.Frag} {mg : Str → Option Value} {base : Heap} {CM rd : Addr}
def spHap (CM : Addr) : Sp := fun vs H Q _ => ∃ (mc st : Addr) (R : Rd) (s : St) (n : Nat) (cell : Int), vs = [.ref mc, .ref st, .int n, .int cell] ∧ MachAt H CM mc R ∧ WF R ∧ H st = some (stP s) ∧ Live R.ln s ∧ 0 ≤ cell ∧ cell ≤ 6 ∧ n < 2 ^ 110 ∧
  ∀ (a : Addr) (what : Option Bool) (d : Nat) (s' : St) (H' : Hp), Same H H' → EvP H' R s cell n a what d s' → Q (.ref a) H'
theorem ok_hap {f : Addr} {fd : FuncData} (F : L2.Fun K "happens" "happens" (topS 40) f fd) (m : mg "happens" = some (.ref f)) (b : Binds K fd ["machine", "state", "count", "cell"] []) (G : Gm K mg) (c_hop : C8.Cal P w K mg base 3 "hop" (spHop CM) [])
    (c_advance : C8.Cal P w K mg base 4 "advance" (spAdv CM) []) : C8.Cal P w K mg base 5 "happens" (spHap CM) [] := by
  refine calN F m b schappens (fun vs H Q E h => ?_) (fun cdv A outer s H vs Q E hr h => ?_)
  · obtain ⟨mc, st, R, s, n, cell, rfl, _⟩ := h
    rfl
  obtain ⟨mc, st, R, s, n, cell, rfl, hmc, wf, hst, hs, c0, c1, hN, q⟩ := h
  refine ⟨_, (pss_cons (ps_set (i := 4) schappens.nd rfl (Or.inl rfl) pe_int) (pss_cons (ps_set (i := 5) schappens.nd rfl (Or.inl rfl) k_dnewN) (pss_cons (ps_while PassesOwn.never (PW.pt (pw_and (pt_cmpR op_lt (pv 4) (pv 2) (nomark _)) (pw_and1 (pt_cmp (k_dnotinN (hu_of hr) (pv 1) (pv 5)))))) (pss_cons (k_dputN (hu_of hr) (pv 5) (pv 1) pe_bl rfl) (pss_cons (ps_asg (C8.pe_c c_hop hr (by decide) rfl (pa_cons (pv 0) (pa_cons (pv 1) (pa_cons (pe_op op_sub (pv 2) (pv 4)) (pa_cons (pv 3) pa_nil))))) (pg_tup rfl (pgs_cons (pg_name (i := 1) schappens.nd rfl (Or.inl rfl)) (pgs_cons (pg_name (i := 6) schappens.nd rfl (Or.inl rfl)) (pgs_cons (pg_name (i := 7) schappens.nd rfl (Or.inl rfl)) pgs_nil))))) (pss_cons (ps_set (i := 4) schappens.nd rfl (Or.inl rfl) (pe_op op_add (pv 4) (pv 6))) (pss_one (ps_if (PW.pt (pw_or (pt_val (pv 7)) (pw_or1 (pt_cmpR op_lt (pe_ix ix_tup (pv 1) pe_int (fun _ _ => rfl)) pe_int (nomark _))))) (pss_one (ps_ret (pe_tup (pa_cons (pe_ifExp (pt_val (pv 7)) pe_str pe_str) (pa_cons (pv 4) (pa_cons (pv 1) pa_nil)))))) pss_nil)))))) (pss_one (ps_ret (pe_tup (pa_cons pe_non (pa_cons (pv 2) (pa_cons (pe_ix ix_tup (C8.pe_c c_advance hr (by decide) rfl (pa_cons (pv 0) (pa_cons (pv 1) (pa_cons (pe_op op_sub (pv 2) (pv 4)) (pa_cons (pv 3) pa_nil))))) pe_int (fun _ _ => rfl)) pa_nil))))))))), ?_⟩
  rw [show L2.start Nschappens [.ref mc, .ref st, .int n, .int cell] = [some (.ref mc), some (.ref st), some (.int n), some (.int cell), none, none, none, none] from rfl]; try simp only [cxK, cxK2, cxP, cxW, cxPn, cxWn]
  repeat walk_at "s"
  intro se H1 ne0
  have hse : H se = none := ne0.fresh
  repeat walk_at "s"
  refine x_while (fun m σ H' => ∃ (d : Nat) (sa : Addr) (es : List SE) (x6 x7 : Option V), σ = [some (.ref mc), some (.ref sa), some (.int n), some (.int cell), some (.int d), some (.ref se), x6, x7] ∧
    Same H H' ∧ d ≤ n ∧ Quiet R.ln cell d s ∧ H' sa = some (stP (iter R.ln cell d s)) ∧ SD P w keyP R.ln cell s H' se es d ∧ m = n - d) n ?_ ?_
  · exact ⟨0, st, [], none, none, rfl, ne0.same, Nat.zero_le _, (fun _ h => absurd h (Nat.not_lt_zero _)), ne0.up hst, SD.nil ne0, rfl⟩
  · rintro mm σ H2 ⟨d, sa, es, x6, x7, rfl, s2, hdn, hq, hsa, sd, hm⟩
    have lv := hq.live wf ⟨c0, c1⟩ hs d (Nat.le_refl _)
    repeat walk_at "s"
    refine x_ite (fun h0 => ?_) (fun h0 => ?_)
    · repeat walk_at "s"
      have key2 : H2 sa = some (.tup ((keyP (iter R.ln cell d s)).map nV)) := by rw [keyP_map]; exact hsa
      refine x_NniA sd.at_ sd.ks key2 ?_
      repeat walk_at "s"
      cases hv : valN (kvOf keyP R.ln cell s es) (keyP (iter R.ln cell d s)) with
      | some v =>
        obtain ⟨⟨a, qa, v'⟩, he, rfl, hk⟩ := valN_some hv
        have had : a < d := sd.lt _ he
        have ring : iter R.ln cell a s = iter R.ln cell d s := keyP_inj hk
        have hqn : Quiet R.ln cell n s := quiet_ring ring had hq n
        refine x_whF ?_
        repeat walk_at "s"
        rw [show (n : Int) - (d : Int) = ((n - d : Nat) : Int) by omega]
        refine ⟨mc, sa, R, iter R.ln cell d s, n - d, cell, rfl, hmc.up s2, wf, hsa, lv, c0, c1, by omega, hqn.shift hdn, fun ta sb v1 v2 v3 H3 s3 z1 z2 => ?_⟩
        rw [← iter_add, show d + (n - d) = n from by omega] at z1
        repeat walk_at "s"
        intro u H4 n4
        exact q u none n _ H4 ((s2.trans s3).trans n4.same) ⟨⟨rfl, .inl ⟨rfl, rfl, hqn⟩⟩, sb, n4.at_, n4.up z1⟩
      | none =>
        have hes := sd.len wf ⟨c0, c1⟩ hs hq (Nat.le_refl _)
        refine x_whT ?_
        repeat walk_at "s"
        refine x_NpA sd.at_ sd.ks key2 (by unfold kvOf; rw [List.length_map, sizeLine_eq]; omega) hv fun H6 c6 ks6 => ?_
        have s06 : Same H H6 := Same.chg s2 hse c6
        have sa6 : H6 sa = some (stP (iter R.ln cell d s)) := c6.up (ne_of hsa sd.at_ (fun z => nomatch (show HO.tup _ = HO.ext _ from z))) hsa
        have sd6 : ∀ d', d < d' → SD P w keyP R.ln cell s H6 se (es ++ [(d, sa, .bl true)]) d' := fun d' hd' => sd.put hv c6.at_ ks6 hd'
        repeat walk_at "s"
        rw [show (n : Int) - (d : Int) = ((n - d : Nat) : Int) by omega]
        refine ⟨mc, sa, R, iter R.ln cell d s, n - d, cell, rfl, hmc.up s06, wf, sa6, lv, c0, c1, by omega, fun ta sb j H7 s7 hj hqj hsb hta => ?_⟩
        have hqd := hq.join hqj
        rw [← iter_add] at hta hsb
        repeat walk_at "s"
        rw [show (d : Int) + ((j + 1 : Nat) : Int) = ((d + (j + 1) : Nat) : Int) by omega]
        repeat walk_at "s"
        refine x_iteB (fun hcut => ?_) (fun hcut => ?_)
        · rw [hcut]
          repeat walk_at "s"
          intro u H8 n8
          exact q u (some true) (d + (j + 1)) _ H8 ((s06.trans s7).trans n8.same) ⟨⟨rfl, .inr ⟨d + j, rfl, by omega, hqd, evS_isCut hcut, nofun⟩⟩, sb, n8.at_, n8.up hsb⟩
        · rw [hcut]
          repeat walk_at "s"
          rw [lnI_neg]
          refine x_ite (fun hd => ?_) (fun hd => ?_)
          · repeat walk_at "s"
            intro u H8 n8
            exact q u (some false) (d + (j + 1)) _ H8 ((s06.trans s7).trans n8.same) ⟨⟨rfl, .inr ⟨d + j, rfl, by omega, hqd, evS_isGone hcut hd, nofun⟩⟩, sb, n8.at_, n8.up hsb⟩
          · repeat walk_at "s"
            refine ⟨n - (d + (j + 1)), by omega, d + (j + 1), sb, es ++ [(d, sa, .bl true)], _, _, rfl, s06.trans s7, by omega, fun k hk => ?_, hsb, (sd6 _ (by omega)).up s7, rfl⟩
            by_cases hkj : k = d + j
            · rw [hkj]; exact evS_isNone hcut hd
            · exact hqd k (by omega)
    · have hd : d = n := by omega
      subst hd
      refine x_whF ?_
      repeat walk_at "s"
      rw [show (d : Int) - (d : Int) = ((0 : Nat) : Int) by omega]
      refine ⟨mc, sa, R, iter R.ln cell d s, 0, cell, rfl, hmc.up s2, wf, hsa, lv, c0, c1, by omega, (fun _ h => absurd h (Nat.not_lt_zero _)), fun ta sb v1 v2 v3 H3 s3 z1 z2 => ?_⟩
      repeat walk_at "s"
      intro u H4 n4
      exact q u none d _ H4 ((s2.trans s3).trans n4.same) ⟨⟨rfl, .inl ⟨rfl, rfl, hq⟩⟩, sb, n4.at_, n4.up z1⟩
end
end
end K21
end

section
set_option maxRecDepth 100000
set_option maxHeartbeats 4000000
/-! K11: defs with defaults, methods, makers; truth, index, tuple(..). -/
namespace K21
open PySem PySem.Spec PyProof.Rows L2
noncomputable section
section
variable {P : Program} {w : World} {K : PySem.W.Frag} {mg : Str → Option Value} {base : Heap}
theorem fnN {x qual : Str} {st : Stmt} {f : Addr} {fd : FuncData} {N ps : List Str} {k : Nat} {sp : Sp} (F : L2.Fun K x qual st f fd) (S : FnScope N ps (defScope st)) (len : ∀ vs H Q E, sp vs H Q E → vs.length = ps.length)
    (hbody : ∀ (cdv : Value) (A : Around) (outer : List Env) (s : Shared) (H : Hp) (vs : List V) (Q : VK) (E : XK), Room k (A.deeper (envOfC qual (defScope st) s.heap.objs.size f cdv)) → sp vs H Q E →
      ∃ t, PSs (cxOf L2.CX0 P w K mg base N qual (defScope st) f cdv A outer s H E).nox (defBody st) t ∧ t ⟨fun _ H' => Q .non H', Q, fun _ _ => False, fun _ _ => False⟩ (start N vs) H) : FnOk P w K mg base C8.CX0 (k + 1) f fd ps sp := F.ok S len hbody
theorem fnD {x qual : Str} {st : Stmt} {f : Addr} {fd : FuncData} {N ps : List Str} {dvs : List V} {k : Nat} {sp : Sp} (F : FunD K x qual (defArgs st) (defBody st) (defScope st) dvs [] f fd) (S : FnScope N ps (defScope st)) (len : ∀ vs H Q E, sp vs H Q E → vs.length = ps.length)
    (hbody : ∀ (cdv : Value) (A : Around) (outer : List Env) (s : Shared) (H : Hp) (vs : List V) (Q : VK) (E : XK), Room k (A.deeper (envOfC qual (defScope st) s.heap.objs.size f cdv)) → sp vs H Q E →
      ∃ t, PSs (cxOf L2.CX0 P w K mg base N qual (defScope st) f cdv A outer s H E).nox (defBody st) t ∧ t ⟨fun _ H' => Q .non H', Q, fun _ _ => False, fun _ _ => False⟩ (start N vs) H) : FnOk P w K mg base C8.CX0 (k + 1) f fd ps sp :=
  F.ok S len fun cdv A outer s H vs Q E hr hsp => by
    obtain ⟨t, h, q⟩ := hbody cdv A outer s H vs Q E hr hsp
    exact ⟨t, h.nox, q⟩
end
section
variable {σ : L2.St} {H : Hp} {Q : VK} {K : PySem.W.Frag} {ta : TE} {t : TA} {QT : Bool → Hp → Prop}
def TrA (K : PySem.W.Frag) (x : V) (H : Hp) (QT : Bool → Hp → Prop) : Prop := ∃ k, TruV K x H k ∧ QT k H
theorem x_tru (k : ta σ H fun x H' => TrA K x H' QT) : (fun (σ : L2.St) (H : Hp) (QT : Bool → Hp → Prop) => ta σ H fun x H' => ∃ k, TruV K x H' k ∧ QT k H') σ H QT := k
theorem x_truL {QB : Bool → Prop} {a : Addr} {xs : List V} (h : H a = some (.lst xs)) (k : QB (!xs.isEmpty)) : ∃ k, TruV K (.ref a) H k ∧ QB k := ⟨_, .inl ⟨xs, SqL.of h, rfl⟩, k⟩
theorem x_truT {QB : Bool → Prop} {a : Addr} {xs : List V} (h : H a = some (.tup xs)) (k : QB (!xs.isEmpty)) : ∃ k, TruV K (.ref a) H k ∧ QB k := ⟨_, .inr (.inl ⟨xs, SqT.of h, rfl⟩), k⟩
/-- names.index(name) -/
theorem x_idx {a : Addr} {nm : List Str} {x : Str} {j : Nat} (h : H a = some (.lst (nm.map V.str))) (nd : nm.Nodup) (hx : nm[j]? = some x) (k : Q (.int (j : Nat)) H) : rIndex K (.ref a) [.str x] H Q := by
  refine ⟨a, nm.map V.str, .str x, j, .str x, rfl, rfl, SqL.of h, rfl, flat_str nm, map_get hx, beq_self_eq_true x, fun i z hi hz => ?_, k⟩
  obtain ⟨y, hy, rfl⟩ := map_some hz
  show (y == x) = false
  rw [beq_eq_false_iff_ne]
  intro e
  subst e
  have pw := List.pairwise_iff_getElem.mp nd
  obtain ⟨h1, h2⟩ := List.getElem?_eq_some_iff.mp hx
  obtain ⟨g1, g2⟩ := List.getElem?_eq_some_iff.mp hy
  exact pw i j g1 h1 hi (g2.trans h2.symm)
theorem x_thn {k : V → Hp → VK → Prop} (q : ta σ H fun x H1 => k x H1 Q) : tThen ta k σ H Q := q
theorem x_kTupL {a : Addr} {xs : List V} (h : H a = some (.lst xs)) (k : ∀ p H2, New H H2 p (.tup xs) → Q (.ref p) H2) : kTup K (.ref a) H Q := .inl ⟨a, xs, rfl, SqL.of h, fun q hq => k q _ (New.of hq)⟩
theorem x_kTupT {a : Addr} {xs : List V} (h : H a = some (.tup xs)) (k : Q (.ref a) H) : kTup K (.ref a) H Q := .inr ⟨a, xs, rfl, SqT.of h, k⟩
/-- a new instance, to be set up -/
def MkA (C : Addr) (sp : Sp) (dvs : List V) (E : XK) (vs : List V) (H1 : Hp) (Q : VK) : Prop := ∀ x dx, H1 x = none → H1 dx = none → dx ≠ x → sp (.ref x :: (vs ++ dvs)) (upd (upd H1 dx (.own x)) x (.ins C dx [])) (fun v H2 => v = .non ∧ Q (.ref x) H2) E
theorem x_mk {C : Addr} {sp : Sp} {dvs : List V} {E : XK} (k : t σ H fun vs H1 => MkA C sp dvs E vs H1 Q) : tMake C sp dvs E t σ H Q := k
theorem x_MkA {C : Addr} {sp : Sp} {dvs vs : List V} {E : XK} (k : ∀ x dx H2, H x = none → Same H H2 → H2 x = some (.ins C dx []) → sp (.ref x :: (vs ++ dvs)) H2 (fun v H3 => v = .non ∧ Q (.ref x) H3) E) : MkA C sp dvs E vs H Q := fun x dx hx hd hne =>
  k x dx _ hx (fun b o h => by rw [upd_ne (ne_of_none h hx), upd_ne (ne_of_none h hd)]; exact h) upd_same
end
end
end K21
end

section
set_option maxRecDepth 100000
set_option maxHeartbeats 4000000
namespace K21
open PySem PySem.Spec PyProof.Rows L2
noncomputable section
local macro_rules | `(tactic| walk_at "hp") => `(tactic| first
  | assumption
  | ((with_reducible refine' At.h ?q); (case q => assumption))
  | ((with_reducible refine' New.at_ ?q); (case q => assumption))
  | ((with_reducible refine' Chg.at_ ?q); (case q => assumption))
  | ((with_reducible refine' New.up ?n ?q); (case n => assumption); (case q => walk_at "hp"))
  | ((with_reducible refine' Same.up ?n ?q); (case n => assumption); (case q => walk_at "hp")))
local macro_rules | `(tactic| walk_at "sz") => `(tactic| first | exact Nat.le_of_ble_eq_true rfl | assumption | omega)
local macro_rules | `(tactic| walk_at "i") => `(tactic| first
  | with_reducible refine' x_I0 ?_
  | ((with_reducible refine' x_I ?c ?_); (case c => first | assumption | (show (_ : Int) ≠ 0; omega) | exact .inr ⟨by decide, by decide⟩ | exact .inl ⟨by decide, by decide⟩ | (refine ⟨?_, ?_⟩ <;> first | decide | omega)))
  | with_reducible refine' x_eqI ?_
  | with_reducible refine' x_neI ?_
  | with_reducible refine' x_eqS ?_
  | with_reducible refine' x_neS ?_
  | with_reducible refine' x_isN ?_
  | with_reducible refine' x_notN ?_
  | with_reducible refine' x_U ?_
  | with_reducible refine' x_int ?_
  | with_reducible refine' x_intB ?_
  | with_reducible refine' x_min2 ?_
  | with_reducible refine' x_max2 ?_
  | ((with_reducible refine' x_ixLh ?h ?v ?_); (case h => walk_at "hp"); (case v => first | exact rfl | assumption))
  | ((with_reducible refine' x_ixTh ?h ?v ?_); (case h => walk_at "hp"); (case v => first | exact rfl | assumption))
  | ((with_reducible refine' x_lenL ?h ?_); (case h => walk_at "hp"))
  | ((with_reducible refine' x_lenT ?h ?_); (case h => walk_at "hp"))
  | ((with_reducible refine' x_gtuph ?h ?l ?_); (case h => walk_at "hp"); (case l => exact rfl))
  | ((with_reducible refine' x_BmAh ?h ?_); (case h => walk_at "hp"))
  | ((with_reducible refine' x_BmA0h ?h ?_); (case h => walk_at "hp"))
  | ((with_reducible refine' x_inStr ?h ?_); (case h => walk_at "hp"))
  | ((with_reducible refine' x_ninStr ?h ?_); (case h => walk_at "hp"))
  | ((with_reducible refine' x_inInt ?h ?_); (case h => walk_at "hp"))
  | ((with_reducible refine' x_ninInt ?h ?_); (case h => walk_at "hp"))
  | ((with_reducible refine' x_inL ?h ?f ?g ?_); (case h => walk_at "hp"); (case f => exact rfl); (case g => first | exact rfl | assumption))
  | ((with_reducible refine' x_inR ?h ?f ?g ?_); (case h => assumption); (case f => exact rfl); (case g => exact rfl))
  | ((with_reducible refine' x_inT ?h ?f ?g ?_); (case h => walk_at "hp"); (case f => exact rfl); (case g => first | exact rfl | assumption))
  | ((with_reducible refine' x_notInL ?h ?f ?g ?_); (case h => walk_at "hp"); (case f => exact rfl); (case g => first | exact rfl | assumption))
  | ((with_reducible refine' x_setL ?h ?j ?_); (case h => walk_at "hp"); (case j => first | exact rfl | assumption))
  | ((with_reducible refine' x_append ?h ?l ?_); (case h => walk_at "hp"); (case l => walk_at "sz"))
  | ((with_reducible refine' x_neNil ?h ?g ?_); (case h => walk_at "hp"); (case g => walk_at "hp"))
  | ((with_reducible refine' x_eqNil ?h ?g ?_); (case h => walk_at "hp"); (case g => walk_at "hp"))
  | ((with_reducible refine' x_DgA ?h ?v ?_); (case h => walk_at "hp"); (case v => first | exact stK_at _ _ _ | exact bkK_first _ _ | exact bkK_lines _ _ | exact stK_kept _ _ _ | exact stK_left _ _ _ | assumption))
  | ((with_reducible refine' x_FldA ?h ?c ?n ?l ?_); (case h => walk_at "hp"); (case c => assumption); (case n => assumption); (case l => first | exact rfl | assumption))
  | ((with_reducible refine' x_truL ?h ?_); (case h => walk_at "hp"))
  | ((with_reducible refine' x_truT ?h ?_); (case h => walk_at "hp"))
  | ((with_reducible refine' x_kTupL ?h ?_); (case h => walk_at "hp"))
  | ((with_reducible refine' x_kTupT ?h ?_); (case h => walk_at "hp"))
  | ((with_reducible refine' x_idx ?h ?n ?x ?_); (case h => walk_at "hp"); (case n => assumption); (case x => assumption))
  | ((with_reducible refine' x_SFldA ?h ?c ?n ?l ?_); (case h => walk_at "hp"); (case c => assumption); (case n => assumption); (case l => exact Nat.le_of_ble_eq_true rfl))
  | with_reducible refine' x_MkA ?_
  | ((with_reducible refine' x_DspS ?h ?_); (case h => walk_at "hp"))
  | ((with_reducible refine' x_AlT ?h ?_); (case h => walk_at "sz"))
  | ((with_reducible refine' x_AlL ?h ?_); (case h => walk_at "sz"))
  | ((with_reducible refine' x_Rg1 ?a ?b ?_); (case a => omega); (case b => omega))
  | ((with_reducible refine' x_Rg2 ?a ?b ?c ?d ?_); (case a => omega); (case b => omega); (case c => omega); (case d => omega))
  | with_reducible refine' x_AlO ?_)
local macro_rules | `(tactic| walk_at "s") => `(tactic| first
  | with_reducible refine' x_seq ?_
  | with_reducible refine' x_asg ?_
  | with_reducible refine' x_gname ?_
  | ((with_reducible refine' x_var ?h ?_); (case h => exact rfl))
  | with_reducible refine' x_c ?_
  | with_reducible refine' x_op ?_
  | with_reducible refine' x_cons ?_
  | with_reducible refine' x_nil ?_
  | with_reducible refine' x_cb ?_
  | with_reducible refine' x_ret ?_
  | with_reducible refine' x_ifS ?_
  | with_reducible refine' x_test ?_
  | with_reducible refine' x_B ?_
  | with_reducible refine' x_bl ?_
  | with_reducible refine' x_if ?_
  | with_reducible refine' x_call ?_
  | with_reducible refine' x_tup ?_
  | with_reducible refine' x_lst ?_
  | with_reducible refine' x_gcons ?_
  | with_reducible refine' x_gnil ?_
  | with_reducible refine' x_gsub ?_
  | with_reducible refine' x_next ?_
  | with_reducible refine' x_drop ?_
  | with_reducible refine' x_and ?_
  | with_reducible refine' x_or ?_
  | with_reducible refine' x_not ?_
  | with_reducible refine' x_andV ?_
  | with_reducible refine' x_orV ?_
  | with_reducible refine' x_un ?_
  | with_reducible refine' x_chain ?_
  | with_reducible refine' x_sfld ?_
  | with_reducible refine' x_par ?_
  | with_reducible refine' x_par2 ?_
  | with_reducible refine' x_par3 ?_
  | with_reducible refine' x_par33 ?_
  | with_reducible refine' x_fld ?_
  | with_reducible refine' x_meth ?_
  | with_reducible refine' x_bm ?_
  | with_reducible refine' x_bm0 ?_
  | with_reducible refine' x_forL ?_
  | with_reducible refine' x_forT ?_
  | with_reducible refine' x_forR1 ?_
  | with_reducible refine' x_forET ?_
  | with_reducible refine' x_thn ?_
  | with_reducible refine' x_mk ?_
  | with_reducible refine' x_forEL ?_
  | with_reducible refine' x_forR2 ?_
  | with_reducible refine' x_lcL ?_
  | with_reducible refine' x_lcT ?_
  | with_reducible refine' x_lcR1 ?_
  | with_reducible refine' x_lcR2 ?_
  | with_reducible refine' x_dnew ?_
  | with_reducible refine' x_retN ?_
  | with_reducible refine' x_ff ?_
  | with_reducible refine' x_lrg1 ?_
  | with_reducible refine' x_disp ?_
  | with_reducible refine' x_pnil ?_
  | with_reducible refine' x_pcons ?_
  | with_reducible refine' x_dget ?_
  | with_reducible refine' x_dput ?_
  | with_reducible refine' x_dnewN ?_
  | with_reducible refine' x_nin ?_
  | with_reducible refine' x_nget ?_
  | with_reducible refine' x_nput ?_
  | ((with_reducible refine' x_yes ?e ?_); (case e => first | decide +kernel | exact not_int_non _ | exact not_str_non _))
  | ((with_reducible refine' x_no ?e ?_); (case e => first | decide +kernel | exact int_non _ | exact str_non _ | exact rfl))
  | with_reducible refine' x_lrg2 ?_
  | with_reducible refine' x_tt ?_
  | with_reducible refine' x_break ?_
  | walk_at "i")

def NscMachine___init__ : List Str := ["self", "labels", "lines"]
theorem scMachine___init__ : FnScope NscMachine___init__ ["self", "labels", "lines"] (defScope (inC 30 0)) := ⟨rfl, rfl, rfl, by decide +kernel, rfl, by decide +kernel, by decide +kernel⟩
def Nscnumbered : List Str := ["line", "labels", "spots", "word", "ways", "spot", "value", "name", "way"]
theorem scnumbered : FnScope Nscnumbered ["line", "labels", "spots"] (defScope (topS 31)) := ⟨rfl, rfl, rfl, by decide +kernel, rfl, by decide +kernel, by decide +kernel⟩
section
variable {P : Program} {w : World} {K : PySem.W.Frag} {mg : Str → Option Value} {base : Heap} {CM rd : Addr}
def spMinit (CM : Addr) : Sp := fun vs H Q _ => ∃ (x dx lb lt : Addr), vs = [.ref x, .ref lb, .ref lt] ∧ H x = some (.ins CM dx []) ∧ ∀ H', Chg H H' x (.ins CM dx (mcF lb lt)) → Q .non H'
theorem ok_minit {f : Addr} {fd : FuncData} (F : L2.Fun K "__init__" "Machine.__init__" (inC 30 0) f fd) (G : Gm K mg) (CMok : McOk K CM) : FnOk P w K mg base C8.CX0 1 f fd ["self", "labels", "lines"] (spMinit CM) := by
  refine fnN F scMachine___init__ (fun vs H Q E h => ?_) (fun cdv A outer s H vs Q E hr h => ?_)
  · obtain ⟨x, dx, lb, lt, rfl, _⟩ := h
    rfl
  obtain ⟨x, dx, lb, lt, rfl, hx, q⟩ := h
  refine ⟨_, (pss_cons (ps_fld (pv 0) (pv 1) rfl) (pss_one (ps_fld (pv 0) (pv 2) rfl))), ?_⟩
  rw [show L2.start NscMachine___init__ [.ref x, .ref lb, .ref lt] = [some (.ref x), some (.ref lb), some (.ref lt)] from rfl]; try simp only [cxK, cxK2, cxP, cxW, cxPn, cxWn]
  obtain ⟨cm1, cm2, cm3⟩ := CMok
  repeat walk_at "s"
  intro H1 k1
  have hx1 := k1.at_
  repeat walk_at "s"
  intro H2 k2
  repeat walk_at "s"
  exact q H2 ⟨fun b o n h => k2.kp b o n (k1.kp b o n h), k2.at_⟩
theorem nm_at (R : Rd) {t : Nat} (h : t < R.nm.length) : R.nm[t]? = some (nmS R t) := by
  unfold nmS
  rw [List.getD_eq_getElem?_getD, List.getElem?_eq_getElem h] <;> rfl
/-- a line with its targets by number -/
def spNum : Sp := fun vs H Q _ => ∃ (la lb sp : Addr) (R : Rd) (l : Ln), vs = [.ref la, .ref lb, .ref sp] ∧ H sp = some (.lst []) ∧ H lb = some (.lst (R.nm.map V.str)) ∧ R.nm.Nodup ∧ (∀ t ∈ l.tg, t < R.nm.length) ∧ l.par ∧ LnAt No H (nmV R.nm) true la l ∧
  ∀ (a : Addr) (H' : Hp), Same H H' → LnAt No H' ixV true a l → Q (.ref a) H'
theorem ok_num {f : Addr} {fd : FuncData} (F : L2.Fun K "numbered" "numbered" (topS 31) f fd) (m : mg "numbered" = some (.ref f)) (b : Binds K fd ["line", "labels", "spots"] []) (G : Gm K mg) : C8.Cal P w K mg base 1 "numbered" spNum [] := by
  refine calN F m b scnumbered (fun vs H Q E h => ?_) (fun cdv A outer s H vs Q E hr h => ?_)
  · obtain ⟨la, lb, sp, R, l, rfl, _⟩ := h
    rfl
  obtain ⟨la, lb, sp, R, l, rfl, hsp, hlb, nd, htg, hpar, ⟨wa, a1, a2⟩, q⟩ := h
  refine ⟨_, (pss_cons (ps_set (i := 3) scnumbered.nd rfl (Or.inl rfl) (pe_ix ix_tup (pv 0) pe_int (fun _ _ => rfl))) (pss_cons (ps_if (pt_cmpR op_in_seq (pv 3) (pe_tup (pa_cons pe_str (pa_cons pe_str pa_nil))) (by rfl)) (pss_one (ps_ret (pe_tup (pa_cons (pv 3) pa_nil)))) pss_nil) (pss_cons (ps_if (pt_cmpR op_eq (pv 3) pe_str (nomark _)) (pss_cons (ps_set (i := 4) scnumbered.nd rfl (Or.inl rfl) (pe_lst pa_nil)) (pss_cons (ps_for PassesOwn.never rfl (k_enumT (by rfl) G.enumerate (pa_cons (pe_ix ix_tup (pv 0) pe_int (fun _ _ => rfl)) pa_nil)) (pg_tup rfl (pgs_cons (pg_name (i := 5) scnumbered.nd rfl (Or.inl rfl)) (pgs_cons (pg_tup rfl (pgs_cons (pg_name (i := 6) scnumbered.nd rfl (Or.inl rfl)) (pgs_cons (pg_name (i := 7) scnumbered.nd rfl (Or.inl rfl)) pgs_nil))) pgs_nil))) (pss_one (ps_expr (pe_bm PySem.F.plainAttrs_list PySem.F.slot_list_append PySem.F.type_list_append mt_append (pv 4) (pa_cons (pe_tup (pa_cons (pv 6) (pa_cons (pe_ifExp (pt_cmpR op_in_seq (pv 5) (pv 2) (by rfl)) (pe_un un_neg pe_int) (pe_bm PySem.F.plainAttrs_list PySem.F.slot_list_index PySem.F.type_list_index mt_index (pv 1) (pa_cons (pv 7) pa_nil))) pa_nil))) pa_nil))))) (pss_one (ps_ret (pe_tup (pa_cons (pv 3) (pa_cons (pe_tupleOf rfl G.tuple (pv 4)) (pa_cons (pe_ifExp (pt_cmpR op_in_seq (pe_callB k_len (by rfl) G.len PySem.boot_len (pa_cons (pv 4) pa_nil)) (pv 2) (by rfl)) (pe_un un_neg pe_int) (pe_bm PySem.F.plainAttrs_list PySem.F.slot_list_index PySem.F.type_list_index mt_index (pv 1) (pa_cons (pe_ix ix_tup (pv 0) pe_int (fun _ _ => rfl)) pa_nil))) pa_nil)))))))) pss_nil) (pss_cons (ps_if (pt_cmpR op_eq (pv 3) pe_str (nomark _)) (pss_one (ps_ret (pe_tup (pa_cons (pv 3) (pa_cons (pe_ix ix_tup (pv 0) pe_int (fun _ _ => rfl)) (pa_cons (pe_bm PySem.F.plainAttrs_list PySem.F.slot_list_index PySem.F.type_list_index mt_index (pv 1) (pa_cons (pe_ix ix_tup (pv 0) pe_int (fun _ _ => rfl)) pa_nil)) (pa_cons (pe_bm PySem.F.plainAttrs_list PySem.F.slot_list_index PySem.F.type_list_index mt_index (pv 1) (pa_cons (pe_ix ix_tup (pv 0) pe_int (fun _ _ => rfl)) pa_nil)) pa_nil))))))) pss_nil) (pss_cons (ps_if (PW.pt (pw_and (pt_cmpR op_eq (pv 3) pe_str (nomark _)) (pw_and1 (pt_truth (pv 2) (by intro _; rfl))))) (pss_one (ps_ret (pe_tup (pa_cons (pv 3) (pa_cons pe_int (pa_cons (pe_un un_neg pe_int) pa_nil)))))) pss_nil) (pss_cons (ps_set (i := 8) scnumbered.nd rfl (Or.inl rfl) (pe_ifExp (pt_truth (pv 2) (by intro _; rfl)) (pe_un un_neg pe_int) (pe_bm PySem.F.plainAttrs_list PySem.F.slot_list_index PySem.F.type_list_index mt_index (pv 1) (pa_cons (pe_ix ix_tup (pv 0) (pe_op op_sub (pe_callB k_len (by rfl) G.len PySem.boot_len (pa_cons (pv 0) pa_nil)) pe_int) (fun _ _ => rfl)) pa_nil)))) (pss_one (ps_ret (pe_ifExp (pt_cmpR op_eq (pv 3) pe_str (nomark _)) (pe_tup (pa_cons (pv 3) (pa_cons (pv 8) pa_nil))) (pe_tup (pa_cons (pv 3) (pa_cons (pe_ix ix_tup (pv 0) pe_int (fun _ _ => rfl)) (pa_cons (pv 8) pa_nil))))))))))))), ?_⟩
  rw [show L2.start Nscnumbered [.ref la, .ref lb, .ref sp] = [some (.ref la), some (.ref lb), some (.ref sp), none, none, none, none, none, none] from rfl]; try simp only [cxK, cxK2, cxP, cxW, cxPn, cxWn]
  have a1' := a1.h
  have fin : ∀ (H1 : Hp) (a w2 : Addr) (H2 : Hp), (∀ ws o, l ≠ .cas ws o) → Same H H1 → New H1 H2 a (.tup (l.row ixV w2)) → Q (.ref a) H2 := fun H1 a w2 H2 hn s1 n2 => q a H2 (s1.trans n2.same) ⟨w2, At.no n2.at_, fun ws o e => absurd e (hn ws o)⟩
  cases l with
  | cut =>
    have h5 : H la = some (.tup [.str Wd.cut.str]) := a1'
    repeat walk_at "s"
    intro u H1 n1
    repeat walk_at "s"
    intro a H2 n2
    exact fin H1 a la H2 nofun n1.same n2
  | rfs =>
    have h5 : H la = some (.tup [.str Wd.rfs.str]) := a1'
    repeat walk_at "s"
    intro u H1 n1
    repeat walk_at "s"
    intro a H2 n2
    exact fin H1 a la H2 nofun n1.same n2
  | tak t =>
    have h5 : H la = some (.tup [.str Wd.tak.str, .str (nmS R t)]) := a1'
    have ht := nm_at R (htg t (List.mem_singleton.mpr rfl))
    repeat walk_at "s"
    intro u H1 n1
    repeat walk_at "s"
    intro a H2 n2
    exact fin H1 a la H2 nofun n1.same n2
  | rst v t =>
    have h5 : H la = some (.tup [.str Wd.rst.str, .int v, .str (nmS R t)]) := a1'
    have ht := nm_at R (htg t (List.mem_singleton.mpr rfl))
    repeat walk_at "s"
    intro u H1 n1
    repeat walk_at "s"
    intro a H2 n2
    exact fin H1 a la H2 nofun n1.same n2
  | cap v t =>
    have h5 : H la = some (.tup [.str Wd.cap.str, .int v, .str (nmS R t)]) := a1'
    have ht := nm_at R (htg t (List.mem_singleton.mpr rfl))
    repeat walk_at "s"
    intro u H1 n1
    repeat walk_at "s"
    intro a H2 n2
    exact fin H1 a la H2 nofun n1.same n2
  | set v t =>
    have h5 : H la = some (.tup [.str Wd.set.str, .int v, .str (nmS R t)]) := a1'
    have ht := nm_at R (htg t (List.mem_singleton.mpr rfl))
    repeat walk_at "s"
    intro u H1 n1
    repeat walk_at "s"
    intro a H2 n2
    exact fin H1 a la H2 nofun n1.same n2
  | skp v t =>
    have h5 : H la = some (.tup [.str Wd.skp.str, .int v, .str (nmS R t)]) := a1'
    have ht := nm_at R (htg t (List.mem_singleton.mpr rfl))
    repeat walk_at "s"
    intro u H1 n1
    repeat walk_at "s"
    intro a H2 n2
    exact fin H1 a la H2 nofun n1.same n2
  | jmp v t =>
    have h5 : H la = some (.tup [.str Wd.jmp.str, .int v, .str (nmS R t)]) := a1'
    have ht := nm_at R (htg t (List.mem_singleton.mpr rfl))
    repeat walk_at "s"
    intro u H1 n1
    repeat walk_at "s"
    intro a H2 n2
    exact fin H1 a la H2 nofun n1.same n2
  | upt v t t2 =>
    have h5 : H la = some (.tup [.str Wd.upt.str, .int v, .str (nmS R t), .str (nmS R t2)]) := a1'
    have ht := nm_at R (htg t (List.mem_cons_self ..))
    have ht2 := nm_at R (htg t2 (List.mem_cons_of_mem _ (List.mem_singleton.mpr rfl)))
    repeat walk_at "s"
    intro u H1 n1
    repeat walk_at "s"
    intro a H2 n2
    exact fin H1 a la H2 nofun n1.same n2
  | cas ws o =>
    have h5 : H la = some (.tup [.str Wd.cas.str, .ref wa, .str (nmS R o)]) := a1'
    obtain ⟨rs, g1, g2, g3⟩ := a2 ws o rfl
    have g1' : H wa = some (.tup (rs.map V.ref)) := g1.h
    have hws : ws.length ≤ 6 := hpar.2.2
    have ho := nm_at R (htg o (List.mem_append.mpr (.inr (List.mem_singleton.mpr rfl))))
    repeat walk_at "s"
    intro u H1 n1
    repeat walk_at "s"
    intro p H2 n2
    have s02 := n1.same.trans n2.same
    have g12 := s02 _ _ g1'
    have hpn : H p = none := by
      cases hz : H p with
      | none => rfl
      | some z => exact absurd (n1.same _ _ hz) (by rw [n2.fresh]; exact nofun)
    repeat walk_at "s"
    refine x_ForET (SqT.of g12) (fun j σ H' => ∃ (qs : List Addr) (x5 x6 x7 x8 : Option V), σ = [some (.ref la), some (.ref lb), some (.ref sp), some (.str Wd.cas.str), some (.ref p), x5, x6, x7, x8] ∧ Same H H' ∧ H' p = some (.lst (qs.map V.ref)) ∧ qs.length = j ∧ WaysAt No H' ixV qs (ws.take j)) ?_ ?_ ?_ ?_
    · exact ⟨[], none, none, none, none, rfl, s02, n2.at_, rfl, rfl, fun i r x h => nomatch h⟩
    · rintro i σ H' _ ⟨_, _, _, _, _, _, s', _⟩
      exact SqT.of (s' _ _ g1')
    · rintro j x σ H3 H4 T hx ⟨qs, x5, x6, x7, x8, rfl, s3, hp3, hql, hqs⟩ n4
      obtain ⟨r, hr', rfl⟩ := map_some hx
      obtain ⟨y, hy⟩ := get_some (l := ws) (i := j) (by have := get_lt hr'; omega)
      have hry : H4 r = some (.tup [.int y.1, .str (nmS R y.2)]) := n4.up (s3 _ _ (g3 j r y hr' hy).h)
      have hyt := nm_at R (htg y.2 (List.mem_append.mpr (.inl (List.mem_map.mpr ⟨y, List.mem_of_getElem? hy, rfl⟩))))
      have hT := n4.at_
      have hp4 := n4.up hp3
      have hsp4 := n4.up (s3 _ _ hsp)
      have hlb4 := n4.up (s3 _ _ hlb)
      have hql6 : (qs.map V.ref).length < sizeLine := by rw [List.length_map, sizeLine_eq]; have := get_lt hy; omega
      repeat walk_at "s"
      intro e H5 n5
      have hp5 := n5.up hp4
      repeat walk_at "s"
      intro H6 c6
      repeat walk_at "s"
      have s06 : Same H H6 := Same.chg ((s3.trans n4.same).trans n5.same) hpn c6
      refine ⟨qs ++ [e], _, _, _, _, rfl, s06, by rw [List.map_append]; exact c6.at_, by rw [List.length_append, hql] <;> rfl, ?_⟩
      rw [List.take_add_one, hy]
      refine WaysAt.snoc (((hqs.up n4.kp).up n5.kp).chgT hp5 c6) ((At.no n5.at_).chgT hp5 c6)
    · rintro σ H3 ⟨qs, x5, x6, x7, x8, rfl, s3, hp3, hql, hqs⟩
      have hlen : (rs.map V.ref).length = ws.length := by rw [List.length_map, g2]
      rw [hlen, List.take_length] at hqs
      have hsp3 := s3 _ _ hsp
      have hlb3 := s3 _ _ hlb
      have h53 := s3 _ _ h5
      repeat walk_at "s"
      intro w2 H4 n4
      have hsp4 := n4.up hsp3
      have hlb4 := n4.up hlb3
      have h54 := n4.up h53
      have hp4 := n4.up hp3
      repeat walk_at "s"
      intro a H5 n5
      refine q a H5 ((s3.trans n4.same).trans n5.same) ⟨w2, At.no n5.at_, fun ws' o' e => ?_⟩
      cases e
      exact ⟨qs, At.no (n5.up n4.at_), (hqs.up n4.kp).up n5.kp⟩
end
end
end K21
end

section
set_option maxRecDepth 100000
set_option maxHeartbeats 4000000
namespace K21
open PySem PySem.Spec PyProof.Rows L2
noncomputable section
local macro_rules | `(tactic| walk_at "hp") => `(tactic| first
  | assumption
  | ((with_reducible refine' At.h ?q); (case q => assumption))
  | ((with_reducible refine' New.at_ ?q); (case q => assumption))
  | ((with_reducible refine' Chg.at_ ?q); (case q => assumption))
  | ((with_reducible refine' New.up ?n ?q); (case n => assumption); (case q => walk_at "hp"))
  | ((with_reducible refine' Same.up ?n ?q); (case n => assumption); (case q => walk_at "hp")))
local macro_rules | `(tactic| walk_at "sz") => `(tactic| first | exact Nat.le_of_ble_eq_true rfl | assumption | omega)
local macro_rules | `(tactic| walk_at "i") => `(tactic| first
  | with_reducible refine' x_I0 ?_
  | ((with_reducible refine' x_I ?c ?_); (case c => first | assumption | (show (_ : Int) ≠ 0; omega) | exact .inr ⟨by decide, by decide⟩ | exact .inl ⟨by decide, by decide⟩ | (refine ⟨?_, ?_⟩ <;> first | decide | omega)))
  | with_reducible refine' x_eqI ?_
  | with_reducible refine' x_neI ?_
  | with_reducible refine' x_eqS ?_
  | with_reducible refine' x_neS ?_
  | with_reducible refine' x_isN ?_
  | with_reducible refine' x_notN ?_
  | with_reducible refine' x_U ?_
  | with_reducible refine' x_int ?_
  | with_reducible refine' x_intB ?_
  | with_reducible refine' x_min2 ?_
  | with_reducible refine' x_max2 ?_
  | ((with_reducible refine' x_ixLh ?h ?v ?_); (case h => walk_at "hp"); (case v => first | exact rfl | assumption))
  | ((with_reducible refine' x_ixTh ?h ?v ?_); (case h => walk_at "hp"); (case v => first | exact rfl | assumption))
  | ((with_reducible refine' x_lenL ?h ?_); (case h => walk_at "hp"))
  | ((with_reducible refine' x_lenT ?h ?_); (case h => walk_at "hp"))
  | ((with_reducible refine' x_gtuph ?h ?l ?_); (case h => walk_at "hp"); (case l => exact rfl))
  | ((with_reducible refine' x_BmAh ?h ?_); (case h => walk_at "hp"))
  | ((with_reducible refine' x_BmA0h ?h ?_); (case h => walk_at "hp"))
  | ((with_reducible refine' x_inStr ?h ?_); (case h => walk_at "hp"))
  | ((with_reducible refine' x_ninStr ?h ?_); (case h => walk_at "hp"))
  | ((with_reducible refine' x_inInt ?h ?_); (case h => walk_at "hp"))
  | ((with_reducible refine' x_ninInt ?h ?_); (case h => walk_at "hp"))
  | ((with_reducible refine' x_inL ?h ?f ?g ?_); (case h => walk_at "hp"); (case f => exact rfl); (case g => first | exact rfl | assumption))
  | ((with_reducible refine' x_inR ?h ?f ?g ?_); (case h => assumption); (case f => exact rfl); (case g => exact rfl))
  | ((with_reducible refine' x_inT ?h ?f ?g ?_); (case h => walk_at "hp"); (case f => exact rfl); (case g => first | exact rfl | assumption))
  | ((with_reducible refine' x_notInL ?h ?f ?g ?_); (case h => walk_at "hp"); (case f => exact rfl); (case g => first | exact rfl | assumption))
  | ((with_reducible refine' x_setL ?h ?j ?_); (case h => walk_at "hp"); (case j => first | exact rfl | assumption))
  | ((with_reducible refine' x_append ?h ?l ?_); (case h => walk_at "hp"); (case l => walk_at "sz"))
  | ((with_reducible refine' x_neNil ?h ?g ?_); (case h => walk_at "hp"); (case g => walk_at "hp"))
  | ((with_reducible refine' x_eqNil ?h ?g ?_); (case h => walk_at "hp"); (case g => walk_at "hp"))
  | ((with_reducible refine' x_DgA ?h ?v ?_); (case h => walk_at "hp"); (case v => first | exact stK_at _ _ _ | exact bkK_first _ _ | exact bkK_lines _ _ | exact stK_kept _ _ _ | exact stK_left _ _ _ | assumption))
  | ((with_reducible refine' x_FldA ?h ?c ?n ?l ?_); (case h => walk_at "hp"); (case c => assumption); (case n => assumption); (case l => first | exact rfl | assumption))
  | ((with_reducible refine' x_truL ?h ?_); (case h => walk_at "hp"))
  | ((with_reducible refine' x_truT ?h ?_); (case h => walk_at "hp"))
  | ((with_reducible refine' x_kTupL ?h ?_); (case h => walk_at "hp"))
  | ((with_reducible refine' x_kTupT ?h ?_); (case h => walk_at "hp"))
  | ((with_reducible refine' x_idx ?h ?n ?x ?_); (case h => walk_at "hp"); (case n => assumption); (case x => assumption))
  | ((with_reducible refine' x_SFldA ?h ?c ?n ?l ?_); (case h => walk_at "hp"); (case c => assumption); (case n => assumption); (case l => exact Nat.le_of_ble_eq_true rfl))
  | with_reducible refine' x_MkA ?_
  | ((with_reducible refine' x_DspS ?h ?_); (case h => walk_at "hp"))
  | ((with_reducible refine' x_AlT ?h ?_); (case h => walk_at "sz"))
  | ((with_reducible refine' x_AlL ?h ?_); (case h => walk_at "sz"))
  | ((with_reducible refine' x_Rg1 ?a ?b ?_); (case a => omega); (case b => omega))
  | ((with_reducible refine' x_Rg2 ?a ?b ?c ?d ?_); (case a => omega); (case b => omega); (case c => omega); (case d => omega))
  | with_reducible refine' x_AlO ?_)
local macro_rules | `(tactic| walk_at "s") => `(tactic| first
  | with_reducible refine' x_seq ?_
  | with_reducible refine' x_asg ?_
  | with_reducible refine' x_gname ?_
  | ((with_reducible refine' x_var ?h ?_); (case h => exact rfl))
  | with_reducible refine' x_c ?_
  | with_reducible refine' x_op ?_
  | with_reducible refine' x_cons ?_
  | with_reducible refine' x_nil ?_
  | with_reducible refine' x_cb ?_
  | with_reducible refine' x_ret ?_
  | with_reducible refine' x_ifS ?_
  | with_reducible refine' x_test ?_
  | with_reducible refine' x_B ?_
  | with_reducible refine' x_bl ?_
  | with_reducible refine' x_if ?_
  | with_reducible refine' x_call ?_
  | with_reducible refine' x_tup ?_
  | with_reducible refine' x_lst ?_
  | with_reducible refine' x_gcons ?_
  | with_reducible refine' x_gnil ?_
  | with_reducible refine' x_gsub ?_
  | with_reducible refine' x_next ?_
  | with_reducible refine' x_drop ?_
  | with_reducible refine' x_and ?_
  | with_reducible refine' x_or ?_
  | with_reducible refine' x_not ?_
  | with_reducible refine' x_andV ?_
  | with_reducible refine' x_orV ?_
  | with_reducible refine' x_un ?_
  | with_reducible refine' x_chain ?_
  | with_reducible refine' x_sfld ?_
  | with_reducible refine' x_par ?_
  | with_reducible refine' x_par2 ?_
  | with_reducible refine' x_par3 ?_
  | with_reducible refine' x_par33 ?_
  | with_reducible refine' x_fld ?_
  | with_reducible refine' x_meth ?_
  | with_reducible refine' x_bm ?_
  | with_reducible refine' x_bm0 ?_
  | with_reducible refine' x_forL ?_
  | with_reducible refine' x_forT ?_
  | with_reducible refine' x_forR1 ?_
  | with_reducible refine' x_forET ?_
  | with_reducible refine' x_thn ?_
  | with_reducible refine' x_mk ?_
  | with_reducible refine' x_forEL ?_
  | with_reducible refine' x_forR2 ?_
  | with_reducible refine' x_lcL ?_
  | with_reducible refine' x_lcT ?_
  | with_reducible refine' x_lcR1 ?_
  | with_reducible refine' x_lcR2 ?_
  | with_reducible refine' x_dnew ?_
  | with_reducible refine' x_retN ?_
  | with_reducible refine' x_ff ?_
  | with_reducible refine' x_lrg1 ?_
  | with_reducible refine' x_disp ?_
  | with_reducible refine' x_pnil ?_
  | with_reducible refine' x_pcons ?_
  | with_reducible refine' x_dget ?_
  | with_reducible refine' x_dput ?_
  | with_reducible refine' x_dnewN ?_
  | with_reducible refine' x_nin ?_
  | with_reducible refine' x_nget ?_
  | with_reducible refine' x_nput ?_
  | ((with_reducible refine' x_yes ?e ?_); (case e => first | decide +kernel | exact not_int_non _ | exact not_str_non _))
  | ((with_reducible refine' x_no ?e ?_); (case e => first | decide +kernel | exact int_non _ | exact str_non _ | exact rfl))
  | with_reducible refine' x_lrg2 ?_
  | with_reducible refine' x_tt ?_
  | with_reducible refine' x_break ?_
  | walk_at "i")

def NscReader_names : List Str := ["self", "name", "line"]
theorem scReader_names : FnScope NscReader_names ["self"] (defScope (inC 28 2)) := ⟨rfl, rfl, rfl, by decide +kernel, rfl, by decide +kernel, by decide +kernel⟩
def Nsccompiled : List Str := ["reader", "turned", "labels", "lines", "name", "line", "one", "spot"]
theorem sccompiled : FnScope Nsccompiled ["reader", "turned"] (defScope (topS 32)) := ⟨rfl, rfl, rfl, by decide +kernel, rfl, by decide +kernel, by decide +kernel⟩
structure RcOk (K : PySem.W.Frag) (CR : Addr) : Prop where
  cls : Cls K CR
  lin : NoAttr K CR "lines"
/-- a reader -/
def RdAt (S : Addr → Prop) (H : Hp) (CR rdr : Addr) (R : Rd) : Prop := ∃ (dx lt : Addr) (xs : List Addr), At S H rdr (.ins CR dx [("lines", .ref lt)]) ∧ At S H lt (.tup (xs.map V.ref)) ∧ LnsAt S H (nmV R.nm) true xs R
theorem RdAt.up {S : Addr → Prop} {H H' : Hp} {CR rdr : Addr} {R : Rd} (h : RdAt S H CR rdr R) (k : Kp S H H') : RdAt S H' CR rdr R := by
  obtain ⟨dx, lt, xs, h1, h2, h3⟩ := h
  exact ⟨dx, lt, xs, h1.up k, h2.up k, h3.up k⟩
theorem RdAt.no {S : Addr → Prop} {H : Hp} {CR rdr : Addr} {R : Rd} (h : RdAt S H CR rdr R) : RdAt No H CR rdr R := by
  obtain ⟨dx, lt, xs, h1, h2, h3⟩ := h
  exact ⟨dx, lt, xs, h1.sub noSub, h2.sub noSub, h3.sub noSub⟩
theorem LnAt.chgT {S : Addr → Prop} {H H' : Hp} {f : Nat → V} {a D : Addr} {l : Ln} {acc : List V} {o : HO} (h : LnAt S H f true a l) (hD : H D = some (.lst acc)) (c : Chg H H' D o) : LnAt S H' f true a l := by
  obtain ⟨wa, h1, h2⟩ := h
  refine ⟨wa, h1.chgT hD c, fun ws o e => ?_⟩
  obtain ⟨rs, a1, a2⟩ := h2 ws o e
  exact ⟨rs, At.chgT (xs := rs.map V.ref) a1 hD c, a2.chgT hD c⟩
/-- a pair of name and line -/
theorem pair_at {H : Hp} {xs : List Addr} {R : Rd} {f : Nat → V} {tu : Bool} (wf : WF R) (h : LnsAt No H f tu xs R) {i : Nat} {x : Addr} (hx : xs[i]? = some x) : ∃ l la, R.ln[i]? = some l ∧ H x = some (.tup [.str (nmS R i), .ref la]) ∧ LnAt No H f tu la l := by
  have hi := get_lt hx
  have h0 := h.1
  have hnl := wf.len
  obtain ⟨l, hl⟩ := get_some (l := R.ln) (i := i) (by omega)
  obtain ⟨la, h1, h2⟩ := h.2 i x (nmS R i) l hx (nm_at R (by omega)) hl
  exact ⟨l, la, hl, h1.h, h2⟩
section
variable {P : Program} {w : World} {K : PySem.W.Frag} {mg : Str → Option Value} {base : Heap} {CM CR rd et : Addr}
def spRnames (CR : Addr) : Sp := fun vs H Q _ => ∃ (rdr : Addr) (R : Rd), vs = [.ref rdr] ∧ RdAt No H CR rdr R ∧ WF R ∧ ∀ (lb : Addr) (H' : Hp), New H H' lb (.lst (R.nm.map V.str)) → Q (.ref lb) H'
theorem ok_rnames {f : Addr} {fd : FuncData} (F : L2.Fun K "names" "Reader.names" (inC 28 2) f fd) (G : Gm K mg) (CRok : RcOk K CR) : FnOk P w K mg base C8.CX0 1 f fd ["self"] (spRnames CR) := by
  refine fnN F scReader_names (fun vs H Q E h => ?_) (fun cdv A outer s H vs Q E hr h => ?_)
  · obtain ⟨rdr, R, rfl, _⟩ := h
    rfl
  obtain ⟨rdr, R, rfl, ⟨dx, lt, xs, h1, h2, h3⟩, wf, q⟩ := h
  refine ⟨_, (pss_one (ps_ret (pe_lc (own := [("name", 1), ("line", 2)]) rfl scReader_names.nd (pi_tup (pe_fld (pv 0) rfl)) (blkOk_by (own := [("name", 1), ("line", 2)]) (N := NscReader_names) (sc := defScope (inC 28 2)) (by decide +kernel)) (fun _ _ _ _ _ => (b_gtup (K := K) (n := 2) rfl rfl (pgs_cons (pg_name (i := 1) scReader_names.nd rfl (Or.inl rfl)) (pgs_cons (pg_name (i := 2) scReader_names.nd rfl (Or.inl rfl)) pgs_nil)))) (fun _ _ _ _ _ => pts_nil) (fun _ _ _ _ _ => (pv 1))))), ?_⟩
  rw [show L2.start NscReader_names [.ref rdr] = [some (.ref rdr), none, none] from rfl]; try simp only [cxK, cxK2, cxP, cxW, cxPn, cxWn]
  obtain ⟨cr1, cr2⟩ := CRok
  have h1' := h1.h
  have h2' := h2.h
  have hnl := wf.len
  have hx0 : xs.length = R.ln.length := h3.1
  have hle : R.ln.length ≤ 8 := by have h := wf.ws.le; rw [ws_len] at h; exact h
  repeat walk_at "s"
  refine x_LcTF h2' (by rw [List.length_map]; omega) (fun _ => true) (fun i => .str (nmS R i)) ?_ ?_
  · intro i x H1 hx s1 R1 kR
    obtain ⟨r, hr', rfl⟩ := map_some hx
    obtain ⟨l, la, hl, g1, g2⟩ := pair_at wf h3 hr'
    have g1' := s1 _ _ g1
    repeat walk_at "s"
    refine kR _ rfl EvB.yes fun _ H2 s2 Q2 k2 => ?_
    repeat walk_at "s"
    exact k2 _ (Same.refl _)
  intro lb H1 n1
  rw [gv_all, List.length_map, hx0, ← hnl] at n1
  have e : ((List.range R.nm.length).map fun i => V.str (nmS R i)) = R.nm.map V.str := range_map R.nm Str.empty V.str
  rw [e] at n1
  exact q lb H1 n1
/-- the machine of a reader -/
def spComp (CM CR et : Addr) : Sp := fun vs H Q _ => ∃ (rdr : Addr) (R : Rd), vs = [.ref rdr, .ref et] ∧ RdAt No H CR rdr R ∧ WF R ∧ ∀ (mc : Addr) (H' : Hp), Same H H' → MachAt H' CM mc R → Q (.ref mc) H'
theorem ok_comp {f : Addr} {fd : FuncData} {dvs : List V} (F : FunD K "compiled" "compiled" (defArgs (topS 32)) (defBody (topS 32)) (defScope (topS 32)) dvs [] f fd) (G : Gm K mg) (CRok : RcOk K CR) (het : ∀ H, SqT K H et []) (m_Machine : C8.Mak P w K mg base 1 "Machine" CM (spMinit CM) [])
    (c_names : C8.Met P w K mg base 1 CR "names" (spRnames CR) []) (c_numbered : C8.Cal P w K mg base 1 "numbered" spNum []) : FnOk P w K mg base C8.CX0 3 f fd ["reader", "turned"] (spComp CM CR et) := by
  refine fnD F sccompiled (fun vs H Q E h => ?_) (fun cdv A outer s H vs Q E hr h => ?_)
  · obtain ⟨rdr, R, rfl, _⟩ := h
    rfl
  obtain ⟨rdr, R, rfl, hrd, wf, q⟩ := h
  refine ⟨_, (pss_cons (ps_set (i := 2) sccompiled.nd rfl (Or.inl rfl) (C8.pe_mt0 c_names hr (by decide) (pv 0))) (pss_cons (ps_set (i := 3) sccompiled.nd rfl (Or.inl rfl) (pe_lst pa_nil)) (pss_cons (ps_for PassesOwn.never rfl (pi_tup (pe_fld (pv 0) rfl)) (pg_tup rfl (pgs_cons (pg_name (i := 4) sccompiled.nd rfl (Or.inr rfl)) (pgs_cons (pg_name (i := 5) sccompiled.nd rfl (Or.inl rfl)) pgs_nil))) (pss_one (ps_expr (pe_bm PySem.F.plainAttrs_list PySem.F.slot_list_append PySem.F.type_list_append mt_append (pv 3) (pa_cons (C8.pe_c c_numbered hr (by decide) rfl (pa_cons (pv 5) (pa_cons (pv 2) (pa_cons (pe_lc (own := [("one", 6), ("spot", 7)]) rfl sccompiled.nd (pi_tup (pv 1)) (blkOk_by (own := [("one", 6), ("spot", 7)]) (N := Nsccompiled) (sc := defScope (topS 32)) (by decide +kernel)) (fun _ _ _ _ _ => (b_gtup (K := K) (n := 2) rfl rfl (pgs_cons (pg_name (i := 6) sccompiled.nd rfl (Or.inl rfl)) (pgs_cons (pg_name (i := 7) sccompiled.nd rfl (Or.inl rfl)) pgs_nil)))) (fun _ _ _ _ _ => pts_one (pt_cmpR op_eq (pv 6) (pv 4) (nomark _))) (fun _ _ _ _ _ => (pv 7))) pa_nil)))) pa_nil))))) (pss_one (ps_ret (C8.pe_mk m_Machine hr (by decide) rfl (pa_cons (pe_tupleOf rfl G.tuple (pv 2)) (pa_cons (pe_tupleOf rfl G.tuple (pv 3)) pa_nil)))))))), ?_⟩
  rw [show L2.start Nsccompiled [.ref rdr, .ref et] = [some (.ref rdr), some (.ref et), none, none, none, none, none, none] from rfl]; try simp only [cxK, cxK2, cxP, cxW, cxPn, cxWn]
  obtain ⟨cr1, cr2⟩ := CRok
  have hnl := wf.len
  have hle : R.ln.length ≤ 8 := by have h := wf.ws.le; rw [ws_len] at h; exact h
  obtain ⟨dx, lt, xs, h1, h2, h3⟩ := id hrd
  have h1' := h1.h
  have h2' := h2.h
  have hx0 : xs.length = R.ln.length := h3.1
  repeat walk_at "s"
  refine x_MethA h1' rfl ?_
  repeat walk_at "s"
  refine ⟨rdr, R, rfl, hrd, wf, fun lb H1 n1 => ?_⟩
  repeat walk_at "s"
  intro p H2 n2
  have s02 := n1.same.trans n2.same
  have h12 := s02 _ _ h1'
  have h22 := s02 _ _ h2'
  have hlb2 := n2.up n1.at_
  have hpn : H p = none := by
    cases hz : H p with
    | none => rfl
    | some z => exact absurd (n1.same _ _ hz) (by rw [n2.fresh]; exact nofun)
  have hlbn : H lb = none := n1.fresh
  have plb : p ≠ lb := n2.ne n1.at_
  repeat walk_at "s"
  refine x_ForT (SqT.of h22) (fun j σ H' => ∃ (qs : List Addr) (x4 x5 x6 x7 : Option V), σ = [some (.ref rdr), some (.ref et), some (.ref lb), some (.ref p), x4, x5, x6, x7] ∧ Same H H' ∧ H' lb = some (.lst (R.nm.map V.str)) ∧ H' p = some (.lst (qs.map V.ref)) ∧ qs.length = j ∧
    ∀ (i : Nat) (a : Addr) (l : Ln), qs[i]? = some a → R.ln[i]? = some l → LnAt No H' ixV true a l) ?_ ?_ ?_ ?_
  · exact ⟨[], none, none, none, none, rfl, s02, hlb2, n2.at_, rfl, fun i a l h => nomatch h⟩
  · rintro i σ H' _ ⟨_, _, _, _, _, _, s', _⟩
    exact SqT.of (s' _ _ h2')
  · rintro j x σ H3 hx ⟨qs, x4, x5, x6, x7, rfl, s3, hlb3, hp3, hql, hqs⟩
    obtain ⟨r, hr', rfl⟩ := map_some hx
    obtain ⟨l, la, hl, g1, g2⟩ := pair_at wf h3 hr'
    have g1' := s3 _ _ g1
    have hj := get_lt hr'
    repeat walk_at "s"
    refine x_LcTu (het _) (fun D _ H' => New H3 H' D (.lst [])) (fun D H' n => n) (fun _ _ H _ _ => het H) (fun D i x H hx => nomatch hx) fun D H4 n4 => ?_
    have hlb4 := n4.up hlb3
    have hp4 := n4.up hp3
    repeat walk_at "s"
    refine ⟨la, lb, D, R, l, rfl, n4.at_, hlb4, wf.ns.nd, fun t ht => ?_, wf.par j l hl, (g2.up (Kp.same s3)).up n4.kp, fun a H5 s5 ha => ?_⟩
    · have := (wf.go j l hl t ht).1
      rw [ws_len] at this
      omega
    have hp5 := s5 _ _ hp4
    have hql6 : (qs.map V.ref).length < sizeLine := by rw [List.length_map, sizeLine_eq]; omega
    repeat walk_at "s"
    intro H6 c6
    repeat walk_at "s"
    have s35 : Same H3 H5 := n4.same.trans s5
    have hlb6 : H6 lb = some (.lst (R.nm.map V.str)) := c6.up plb.symm (s5 _ _ hlb4)
    refine ⟨qs ++ [a], _, _, _, _, rfl, Same.chg (s3.trans s35) hpn c6, hlb6, by rw [List.map_append]; exact c6.at_, by rw [List.length_append, hql] <;> rfl, fun i b l' hb hl' => ?_⟩
    rcases snoc_get hb with ⟨z1, z2⟩ | ⟨z1, rfl⟩
    · exact ((hqs i b l' z2 hl').up (Kp.same s35)).chgT hp5 c6
    · rw [z1, hql, hl] at hl'
      cases hl'
      exact ha.chgT hp5 c6
  · rintro σ H3 ⟨qs, x4, x5, x6, x7, rfl, s3, hlb3, hp3, hql, hqs⟩
    repeat walk_at "s"
    intro lb2 H4 n4
    have hp4 := n4.up hp3
    repeat walk_at "s"
    intro lt2 H5 n5
    repeat walk_at "s"
    intro x dx2 H6 hx s6 hx6
    repeat walk_at "s"
    refine ⟨x, dx2, lb2, lt2, rfl, hx6, fun H7 c7 => ⟨rfl, ?_⟩⟩
    have s57 : Same H5 H7 := Same.chg s6 hx c7
    have s07 : Same H H7 := ((s3.trans n4.same).trans n5.same).trans s57
    refine q x H7 s07 ⟨dx2, lb2, lt2, qs, c7.at_, s57 _ _ n5.at_, by rw [hql, List.length_map]; exact hx0, fun i a l ha hl => ?_⟩
    exact (hqs i a l ha hl).up (Kp.same ((n4.same.trans n5.same).trans s57))
end
end
end K21
end

section
set_option maxRecDepth 100000
set_option maxHeartbeats 4000000
namespace K21
open PySem PySem.Spec PyProof.Rows L2
noncomputable section
local macro_rules | `(tactic| walk_at "hp") => `(tactic| first
  | assumption
  | ((with_reducible refine' At.h ?q); (case q => assumption))
  | ((with_reducible refine' New.at_ ?q); (case q => assumption))
  | ((with_reducible refine' Chg.at_ ?q); (case q => assumption))
  | ((with_reducible refine' New.up ?n ?q); (case n => assumption); (case q => walk_at "hp"))
  | ((with_reducible refine' Same.up ?n ?q); (case n => assumption); (case q => walk_at "hp")))
local macro_rules | `(tactic| walk_at "sz") => `(tactic| first | exact Nat.le_of_ble_eq_true rfl | assumption | omega)
local macro_rules | `(tactic| walk_at "i") => `(tactic| first
  | with_reducible refine' x_I0 ?_
  | ((with_reducible refine' x_I ?c ?_); (case c => first | assumption | (show (_ : Int) ≠ 0; omega) | exact .inr ⟨by decide, by decide⟩ | exact .inl ⟨by decide, by decide⟩ | (refine ⟨?_, ?_⟩ <;> first | decide | omega)))
  | with_reducible refine' x_eqI ?_
  | with_reducible refine' x_neI ?_
  | with_reducible refine' x_eqS ?_
  | with_reducible refine' x_neS ?_
  | with_reducible refine' x_isN ?_
  | with_reducible refine' x_notN ?_
  | with_reducible refine' x_U ?_
  | with_reducible refine' x_int ?_
  | with_reducible refine' x_intB ?_
  | with_reducible refine' x_min2 ?_
  | with_reducible refine' x_max2 ?_
  | ((with_reducible refine' x_ixLh ?h ?v ?_); (case h => walk_at "hp"); (case v => first | exact rfl | assumption))
  | ((with_reducible refine' x_ixTh ?h ?v ?_); (case h => walk_at "hp"); (case v => first | exact rfl | assumption))
  | ((with_reducible refine' x_lenL ?h ?_); (case h => walk_at "hp"))
  | ((with_reducible refine' x_lenT ?h ?_); (case h => walk_at "hp"))
  | ((with_reducible refine' x_gtuph ?h ?l ?_); (case h => walk_at "hp"); (case l => exact rfl))
  | ((with_reducible refine' x_BmAh ?h ?_); (case h => walk_at "hp"))
  | ((with_reducible refine' x_BmA0h ?h ?_); (case h => walk_at "hp"))
  | ((with_reducible refine' x_inStr ?h ?_); (case h => walk_at "hp"))
  | ((with_reducible refine' x_ninStr ?h ?_); (case h => walk_at "hp"))
  | ((with_reducible refine' x_inInt ?h ?_); (case h => walk_at "hp"))
  | ((with_reducible refine' x_ninInt ?h ?_); (case h => walk_at "hp"))
  | ((with_reducible refine' x_inL ?h ?f ?g ?_); (case h => walk_at "hp"); (case f => exact rfl); (case g => first | exact rfl | assumption))
  | ((with_reducible refine' x_inR ?h ?f ?g ?_); (case h => assumption); (case f => exact rfl); (case g => exact rfl))
  | ((with_reducible refine' x_inT ?h ?f ?g ?_); (case h => walk_at "hp"); (case f => exact rfl); (case g => first | exact rfl | assumption))
  | ((with_reducible refine' x_notInL ?h ?f ?g ?_); (case h => walk_at "hp"); (case f => exact rfl); (case g => first | exact rfl | assumption))
  | ((with_reducible refine' x_setL ?h ?j ?_); (case h => walk_at "hp"); (case j => first | exact rfl | assumption))
  | ((with_reducible refine' x_append ?h ?l ?_); (case h => walk_at "hp"); (case l => walk_at "sz"))
  | ((with_reducible refine' x_neNil ?h ?g ?_); (case h => walk_at "hp"); (case g => walk_at "hp"))
  | ((with_reducible refine' x_eqNil ?h ?g ?_); (case h => walk_at "hp"); (case g => walk_at "hp"))
  | ((with_reducible refine' x_DgA ?h ?v ?_); (case h => walk_at "hp"); (case v => first | exact stK_at _ _ _ | exact bkK_first _ _ | exact bkK_lines _ _ | exact stK_kept _ _ _ | exact stK_left _ _ _ | assumption))
  | ((with_reducible refine' x_FldA ?h ?c ?n ?l ?_); (case h => walk_at "hp"); (case c => assumption); (case n => assumption); (case l => first | exact rfl | assumption))
  | ((with_reducible refine' x_truL ?h ?_); (case h => walk_at "hp"))
  | ((with_reducible refine' x_truT ?h ?_); (case h => walk_at "hp"))
  | ((with_reducible refine' x_kTupL ?h ?_); (case h => walk_at "hp"))
  | ((with_reducible refine' x_kTupT ?h ?_); (case h => walk_at "hp"))
  | ((with_reducible refine' x_idx ?h ?n ?x ?_); (case h => walk_at "hp"); (case n => assumption); (case x => assumption))
  | ((with_reducible refine' x_SFldA ?h ?c ?n ?l ?_); (case h => walk_at "hp"); (case c => assumption); (case n => assumption); (case l => exact Nat.le_of_ble_eq_true rfl))
  | with_reducible refine' x_MkA ?_
  | ((with_reducible refine' x_DspS ?h ?_); (case h => walk_at "hp"))
  | ((with_reducible refine' x_AlT ?h ?_); (case h => walk_at "sz"))
  | ((with_reducible refine' x_AlL ?h ?_); (case h => walk_at "sz"))
  | ((with_reducible refine' x_Rg1 ?a ?b ?_); (case a => omega); (case b => omega))
  | ((with_reducible refine' x_Rg2 ?a ?b ?c ?d ?_); (case a => omega); (case b => omega); (case c => omega); (case d => omega))
  | with_reducible refine' x_AlO ?_)
local macro_rules | `(tactic| walk_at "s") => `(tactic| first
  | with_reducible refine' x_seq ?_
  | with_reducible refine' x_asg ?_
  | with_reducible refine' x_gname ?_
  | ((with_reducible refine' x_var ?h ?_); (case h => exact rfl))
  | with_reducible refine' x_c ?_
  | with_reducible refine' x_op ?_
  | with_reducible refine' x_cons ?_
  | with_reducible refine' x_nil ?_
  | with_reducible refine' x_cb ?_
  | with_reducible refine' x_ret ?_
  | with_reducible refine' x_ifS ?_
  | with_reducible refine' x_test ?_
  | with_reducible refine' x_B ?_
  | with_reducible refine' x_bl ?_
  | with_reducible refine' x_if ?_
  | with_reducible refine' x_call ?_
  | with_reducible refine' x_tup ?_
  | with_reducible refine' x_lst ?_
  | with_reducible refine' x_gcons ?_
  | with_reducible refine' x_gnil ?_
  | with_reducible refine' x_gsub ?_
  | with_reducible refine' x_next ?_
  | with_reducible refine' x_drop ?_
  | with_reducible refine' x_and ?_
  | with_reducible refine' x_or ?_
  | with_reducible refine' x_not ?_
  | with_reducible refine' x_andV ?_
  | with_reducible refine' x_orV ?_
  | with_reducible refine' x_un ?_
  | with_reducible refine' x_chain ?_
  | with_reducible refine' x_sfld ?_
  | with_reducible refine' x_par ?_
  | with_reducible refine' x_par2 ?_
  | with_reducible refine' x_par3 ?_
  | with_reducible refine' x_par33 ?_
  | with_reducible refine' x_fld ?_
  | with_reducible refine' x_meth ?_
  | with_reducible refine' x_bm ?_
  | with_reducible refine' x_bm0 ?_
  | with_reducible refine' x_forL ?_
  | with_reducible refine' x_forT ?_
  | with_reducible refine' x_forR1 ?_
  | with_reducible refine' x_forET ?_
  | with_reducible refine' x_thn ?_
  | with_reducible refine' x_mk ?_
  | with_reducible refine' x_forEL ?_
  | with_reducible refine' x_forR2 ?_
  | with_reducible refine' x_lcL ?_
  | with_reducible refine' x_lcT ?_
  | with_reducible refine' x_lcR1 ?_
  | with_reducible refine' x_lcR2 ?_
  | with_reducible refine' x_dnew ?_
  | with_reducible refine' x_retN ?_
  | with_reducible refine' x_ff ?_
  | with_reducible refine' x_lrg1 ?_
  | with_reducible refine' x_disp ?_
  | with_reducible refine' x_pnil ?_
  | with_reducible refine' x_pcons ?_
  | with_reducible refine' x_dget ?_
  | with_reducible refine' x_dput ?_
  | with_reducible refine' x_dnewN ?_
  | with_reducible refine' x_nin ?_
  | with_reducible refine' x_nget ?_
  | with_reducible refine' x_nput ?_
  | ((with_reducible refine' x_yes ?e ?_); (case e => first | decide +kernel | exact not_int_non _ | exact not_str_non _))
  | ((with_reducible refine' x_no ?e ?_); (case e => first | decide +kernel | exact int_non _ | exact str_non _ | exact rfl))
  | with_reducible refine' x_lrg2 ?_
  | with_reducible refine' x_tt ?_
  | with_reducible refine' x_break ?_
  | walk_at "i")

def NscPair___init__ : List Str := ["self", "one", "other"]
theorem scPair___init__ : FnScope NscPair___init__ ["self", "one", "other"] (defScope (inC 49 0)) := ⟨rfl, rfl, rfl, by decide +kernel, rfl, by decide +kernel, by decide +kernel⟩
def NscPair_moved : List Str := ["self", "spot", "found", "at", "cell"]
theorem scPair_moved : FnScope NscPair_moved ["self", "spot", "found", "at", "cell"] (defScope (inC 49 2)) := ⟨rfl, rfl, rfl, by decide +kernel, rfl, by decide +kernel, by decide +kernel⟩

structure PcOk (K : PySem.W.Frag) (CP : Addr) : Prop where
  cls : Cls K CP
  mch : NoAttr K CP "machines"
  sts : NoAttr K CP "states"
abbrev prF (mt st : Addr) : List (Str × V) := [("machines", .ref mt), ("states", .ref st)]
def PairAt (H : Hp) (CP CM pr : Addr) (R1 R2 : Rd) (S : Two) : Prop := ∃ (dx mt st m1 m2 a1 a2 : Addr), H pr = some (.ins CP dx (prF mt st)) ∧ H mt = some (.tup [.ref m1, .ref m2]) ∧ MachAt H CM m1 R1 ∧ MachAt H CM m2 R2 ∧ H st = some (.tup [.ref a1, .ref a2]) ∧ H a1 = some (stP S.1) ∧ H a2 = some (stP S.2)
theorem PairAt.up {H H' : Hp} {CP CM pr : Addr} {R1 R2 : Rd} {S : Two} (h : PairAt H CP CM pr R1 R2 S) (k : Same H H') : PairAt H' CP CM pr R1 R2 S := by
  obtain ⟨dx, mt, st, m1, m2, a1, a2, h1, h2, h3, h4, h5, h6, h7⟩ := h
  exact ⟨dx, mt, st, m1, m2, a1, a2, k _ _ h1, k _ _ h2, h3.up k, h4.up k, k _ _ h5, k _ _ h6, k _ _ h7⟩
/-- machines stand while an instance of another kind changes -/
theorem MachAt.kpx {H H' : Hp} {CM CP mc pr dx : Addr} {fs : List (Str × V)} {R : Rd} (h : MachAt H CM mc R) (hp : H pr = some (.ins CP dx fs)) (hf : ∀ lb lt, fs ≠ mcF lb lt) (k : ∀ b o, b ≠ pr → H b = some o → H' b = some o) : MachAt H' CM mc R := by
  obtain ⟨dx2, lb, lt, xs, h1, h2, h3, h4⟩ := h
  have ne1 : mc ≠ pr := ne_of h1 hp fun z => by cases z; exact hf lb lt rfl
  refine ⟨dx2, lb, lt, xs, k _ _ ne1 h1, k _ _ (ne_of h2 hp (fun z => nomatch z)) h2, h3, fun i x ln a b => ?_⟩
  obtain ⟨wa, g1, g2⟩ := h4 i x ln a b
  have tk : ∀ {q : Addr} {ys : List V}, At No H q (.tup ys) → At No H' q (.tup ys) := fun g => At.no (k _ _ (ne_of g.1 hp (fun z => nomatch z)) g.1)
  refine ⟨wa, tk g1, fun ws o e => ?_⟩
  obtain ⟨rs, f1, f2⟩ := g2 ws o e
  exact ⟨rs, tk (ys := rs.map V.ref) f1, f2.1, fun i r x a b => tk (f2.2 i r x a b)⟩
section
variable {P : Program} {w : World} {K : PySem.W.Frag} {mg : Str → Option Value} {base : Heap} {CM CR CP rd et : Addr}
def spPinit (CP CM CR : Addr) : Sp := fun vs H Q _ => ∃ (x dx one other : Addr) (R1 R2 : Rd), vs = [.ref x, .ref one, .ref other] ∧ H x = some (.ins CP dx []) ∧ RdAt No H CR one R1 ∧ RdAt No H CR other R2 ∧ WF R1 ∧ WF R2 ∧
  ∀ H', (∀ b o, b ≠ x → H b = some o → H' b = some o) → PairAt H' CP CM x R1 R2 (begS R1.ln, begS R2.ln) → Q .non H'
theorem ok_pinit {f : Addr} {fd : FuncData} (F : L2.Fun K "__init__" "Pair.__init__" (inC 49 0) f fd) (G : Gm K mg) (CPok : PcOk K CP) (c_compiled : C8.Cal P w K mg base 3 "compiled" (spComp CM CR et) [.ref et]) (c_begin : C8.Cal P w K mg base 2 "begin" (spBegin CM) []) : FnOk P w K mg base C8.CX0 4 f fd ["self", "one", "other"] (spPinit CP CM CR) := by
  refine fnN F scPair___init__ (fun vs H Q E h => ?_) (fun cdv A outer s H vs Q E hr h => ?_)
  · obtain ⟨x, dx, one, other, R1, R2, rfl, _⟩ := h
    rfl
  obtain ⟨x, dx, one, other, R1, R2, rfl, hx, h1, h2, wf1, wf2, q⟩ := h
  refine ⟨_, (pss_cons (ps_fld (pv 0) (pe_tup (pa_cons (C8.pe_c c_compiled hr (by decide) rfl (pa_cons (pv 1) pa_nil)) (pa_cons (C8.pe_c c_compiled hr (by decide) rfl (pa_cons (pv 2) pa_nil)) pa_nil))) rfl) (pss_one (ps_fld (pv 0) (pe_tup (pa_cons (C8.pe_c c_begin hr (by decide) rfl (pa_cons (pe_ix ix_tup (pe_fld (pv 0) rfl) pe_int (fun _ _ => rfl)) pa_nil)) (pa_cons (C8.pe_c c_begin hr (by decide) rfl (pa_cons (pe_ix ix_tup (pe_fld (pv 0) rfl) pe_int (fun _ _ => rfl)) pa_nil)) pa_nil))) rfl))), ?_⟩
  rw [show L2.start NscPair___init__ [.ref x, .ref one, .ref other] = [some (.ref x), some (.ref one), some (.ref other)] from rfl]; try simp only [cxK, cxK2, cxP, cxW, cxPn, cxWn]
  obtain ⟨cp1, cp2, cp3⟩ := CPok
  repeat walk_at "s"
  refine ⟨one, R1, rfl, h1, wf1, fun m1 H1 s1 hm1 => ?_⟩
  repeat walk_at "s"
  refine ⟨other, R2, rfl, h2.up (Kp.same s1), wf2, fun m2 H2 s2 hm2 => ?_⟩
  have hx2 := s2 _ _ (s1 _ _ hx)
  repeat walk_at "s"
  intro mt H3 n3
  have hx3 := n3.up hx2
  repeat walk_at "s"
  intro H4 k4
  have hx4 := k4.at_
  have hmt4 : H4 mt = some (.tup [.ref m1, .ref m2]) := k4.up (ne_of n3.at_ hx3 (fun z => nomatch z)) n3.at_
  have hM1 : MachAt H4 CM m1 R1 := ((hm1.up s2).up n3.same).kpx hx3 nofun (fun b o hb e => k4.up hb e)
  have hM2 : MachAt H4 CM m2 R2 := (hm2.up n3.same).kpx hx3 nofun (fun b o hb e => k4.up hb e)
  repeat walk_at "s"
  refine ⟨m1, R1, rfl, hM1, wf1, fun a1 H5 s5 ha1 => ?_⟩
  have hx5 := s5 _ _ hx4
  have hmt5 := s5 _ _ hmt4
  repeat walk_at "s"
  refine ⟨m2, R2, rfl, hM2.up s5, wf2, fun a2 H6 s6 ha2 => ?_⟩
  have hx6 := s6 _ _ hx5
  repeat walk_at "s"
  intro st H7 n7
  have hx7 := n7.up hx6
  repeat walk_at "s"
  intro H8 k8
  repeat walk_at "s"
  have tk : ∀ {q : Addr} {ys : List V}, H7 q = some (.tup ys) → H8 q = some (.tup ys) := fun h => k8.up (ne_of h hx7 (fun z => nomatch z)) h
  have s47 := (s5.trans s6).trans n7.same
  refine q H8 (fun b o hb e => k8.up hb (s47 _ _ (k4.up hb (n3.up (s2 _ _ (s1 _ _ e)))))) ⟨dx, mt, st, m1, m2, a1, a2, k8.at_, tk (s47 _ _ hmt4), (hM1.up s47).kpx hx7 nofun (fun b o hb e => k8.up hb e), (hM2.up s47).kpx hx7 nofun (fun b o hb e => k8.up hb e), tk n7.at_, tk (n7.up (s6 _ _ ha1)), tk (n7.up ha2)⟩
/-- one state moved to near -/
def spMoved (CP CM : Addr) : Sp := fun vs H Q _ => ∃ (pr t : Addr) (R1 R2 R : Rd) (S : Two) (s s' : St) (i n d near : Nat) (cell : Int) (wo : Option Bool), vs = [.ref pr, .int i, .ref t, .int near, .int cell] ∧ PairAt H CP CM pr R1 R2 S ∧ ((i = 0 ∧ R = R1 ∧ s = S.1) ∨ (i = 1 ∧ R = R2 ∧ s = S.2)) ∧ WF R ∧ Live R.ln s ∧ 0 ≤ cell ∧ cell ≤ 6 ∧
  n < 2 ^ 110 ∧ EvP H R s cell n t wo d s' ∧ near ≤ n ∧ (wo ≠ none → near ≤ d) ∧ ∀ (sd : Addr) (H' : Hp), Same H H' → H' sd = some (stP (iter R.ln cell near s)) → Q (.ref sd) H'
theorem ok_moved {f : Addr} {fd : FuncData} (F : L2.Fun K "moved" "Pair.moved" (inC 49 2) f fd) (G : Gm K mg) (CPok : PcOk K CP) (c_advance : C8.Cal P w K mg base 4 "advance" (spAdv CM) []) : FnOk P w K mg base C8.CX0 5 f fd ["self", "spot", "found", "at", "cell"] (spMoved CP CM) := by
  refine fnN F scPair_moved (fun vs H Q E h => ?_) (fun cdv A outer s H vs Q E hr h => ?_)
  · obtain ⟨pr, t, R1, R2, R, S, s, s', i, n, d, near, cell, wo, rfl, _⟩ := h
    rfl
  obtain ⟨pr, t, R1, R2, R, S, s, s', i, n, d, near, cell, wo, rfl, ⟨dx, mt, st, m1, m2, a1, a2, h1, h2, h3, h4, h5, h6, h7⟩, hi, wf, lv, c0, c1, hN, ⟨ev, sd, g1, g2⟩, l1, l2, q⟩ := h
  refine ⟨_, (pss_cons (ps_if (pt_cmpR op_eq (pe_ix ix_tup (pv 2) pe_int (fun _ _ => rfl)) (pv 3) (nomark _)) (pss_one (ps_ret (pe_ix ix_tup (pv 2) pe_int (fun _ _ => rfl)))) pss_nil) (pss_one (ps_ret (pe_ix ix_tup (C8.pe_c c_advance hr (by decide) rfl (pa_cons (pe_ix ix_tup (pe_fld (pv 0) rfl) (pv 1) (fun _ _ => rfl)) (pa_cons (pe_ix ix_tup (pe_fld (pv 0) rfl) (pv 1) (fun _ _ => rfl)) (pa_cons (pv 3) (pa_cons (pv 4) pa_nil))))) pe_int (fun _ _ => rfl))))), ?_⟩
  rw [show L2.start NscPair_moved [.ref pr, .int i, .ref t, .int near, .int cell] = [some (.ref pr), some (.int i), some (.ref t), some (.int near), some (.int cell)] from rfl]; try simp only [cxK, cxK2, cxP, cxW, cxPn, cxWn]
  obtain ⟨cp1, cp2, cp3⟩ := CPok
  have at_ := ev.at_ l1 l2
  repeat walk_at "s"
  refine x_ite (fun hd => ?_) (fun hd => ?_)
  · have hd : d = near := by omega
    repeat walk_at "s"
    refine q sd H (Same.refl _) ?_
    rw [← hd, ← ev.1]
    exact g2
  · have hq : Quiet R.ln cell near s := at_.2.2 (by omega)
    rcases hi with ⟨rfl, rfl, rfl⟩ | ⟨rfl, rfl, rfl⟩
    · repeat walk_at "s"
      refine ⟨m1, a1, R, S.1, near, cell, rfl, h3, wf, h6, lv, c0, c1, by omega, hq, fun ta sb v1 v2 v3 H1 s1 z1 z2 => ?_⟩
      repeat walk_at "s"
      exact q sb H1 s1 z1
    · repeat walk_at "s"
      refine ⟨m2, a2, R, S.2, near, cell, rfl, h4, wf, h7, lv, c0, c1, by omega, hq, fun ta sb v1 v2 v3 H1 s1 z1 z2 => ?_⟩
      repeat walk_at "s"
      exact q sb H1 s1 z1
end
end
end K21
end

section
set_option maxRecDepth 100000
set_option maxHeartbeats 4000000
namespace K21
open PySem PySem.Spec PyProof.Rows L2
noncomputable section
local macro_rules | `(tactic| walk_at "hp") => `(tactic| first
  | assumption
  | ((with_reducible refine' At.h ?q); (case q => assumption))
  | ((with_reducible refine' New.at_ ?q); (case q => assumption))
  | ((with_reducible refine' Chg.at_ ?q); (case q => assumption))
  | ((with_reducible refine' New.up ?n ?q); (case n => assumption); (case q => walk_at "hp"))
  | ((with_reducible refine' Same.up ?n ?q); (case n => assumption); (case q => walk_at "hp")))
local macro_rules | `(tactic| walk_at "sz") => `(tactic| first | exact Nat.le_of_ble_eq_true rfl | assumption | omega)
local macro_rules | `(tactic| walk_at "i") => `(tactic| first
  | with_reducible refine' x_I0 ?_
  | ((with_reducible refine' x_I ?c ?_); (case c => first | assumption | (show (_ : Int) ≠ 0; omega) | exact .inr ⟨by decide, by decide⟩ | exact .inl ⟨by decide, by decide⟩ | (refine ⟨?_, ?_⟩ <;> first | decide | omega)))
  | with_reducible refine' x_eqI ?_
  | with_reducible refine' x_neI ?_
  | with_reducible refine' x_eqS ?_
  | with_reducible refine' x_neS ?_
  | with_reducible refine' x_isN ?_
  | with_reducible refine' x_notN ?_
  | with_reducible refine' x_U ?_
  | with_reducible refine' x_int ?_
  | with_reducible refine' x_intB ?_
  | with_reducible refine' x_min2 ?_
  | with_reducible refine' x_max2 ?_
  | ((with_reducible refine' x_ixLh ?h ?v ?_); (case h => walk_at "hp"); (case v => first | exact rfl | assumption))
  | ((with_reducible refine' x_ixTh ?h ?v ?_); (case h => walk_at "hp"); (case v => first | exact rfl | assumption))
  | ((with_reducible refine' x_lenL ?h ?_); (case h => walk_at "hp"))
  | ((with_reducible refine' x_lenT ?h ?_); (case h => walk_at "hp"))
  | ((with_reducible refine' x_gtuph ?h ?l ?_); (case h => walk_at "hp"); (case l => exact rfl))
  | ((with_reducible refine' x_BmAh ?h ?_); (case h => walk_at "hp"))
  | ((with_reducible refine' x_BmA0h ?h ?_); (case h => walk_at "hp"))
  | ((with_reducible refine' x_inStr ?h ?_); (case h => walk_at "hp"))
  | ((with_reducible refine' x_ninStr ?h ?_); (case h => walk_at "hp"))
  | ((with_reducible refine' x_inInt ?h ?_); (case h => walk_at "hp"))
  | ((with_reducible refine' x_ninInt ?h ?_); (case h => walk_at "hp"))
  | ((with_reducible refine' x_inL ?h ?f ?g ?_); (case h => walk_at "hp"); (case f => exact rfl); (case g => first | exact rfl | assumption))
  | ((with_reducible refine' x_inR ?h ?f ?g ?_); (case h => assumption); (case f => exact rfl); (case g => exact rfl))
  | ((with_reducible refine' x_inT ?h ?f ?g ?_); (case h => walk_at "hp"); (case f => exact rfl); (case g => first | exact rfl | assumption))
  | ((with_reducible refine' x_notInL ?h ?f ?g ?_); (case h => walk_at "hp"); (case f => exact rfl); (case g => first | exact rfl | assumption))
  | ((with_reducible refine' x_setL ?h ?j ?_); (case h => walk_at "hp"); (case j => first | exact rfl | assumption))
  | ((with_reducible refine' x_append ?h ?l ?_); (case h => walk_at "hp"); (case l => walk_at "sz"))
  | ((with_reducible refine' x_neNil ?h ?g ?_); (case h => walk_at "hp"); (case g => walk_at "hp"))
  | ((with_reducible refine' x_eqNil ?h ?g ?_); (case h => walk_at "hp"); (case g => walk_at "hp"))
  | ((with_reducible refine' x_DgA ?h ?v ?_); (case h => walk_at "hp"); (case v => first | exact stK_at _ _ _ | exact bkK_first _ _ | exact bkK_lines _ _ | exact stK_kept _ _ _ | exact stK_left _ _ _ | assumption))
  | ((with_reducible refine' x_FldA ?h ?c ?n ?l ?_); (case h => walk_at "hp"); (case c => assumption); (case n => assumption); (case l => first | exact rfl | assumption))
  | ((with_reducible refine' x_truL ?h ?_); (case h => walk_at "hp"))
  | ((with_reducible refine' x_truT ?h ?_); (case h => walk_at "hp"))
  | ((with_reducible refine' x_kTupL ?h ?_); (case h => walk_at "hp"))
  | ((with_reducible refine' x_kTupT ?h ?_); (case h => walk_at "hp"))
  | ((with_reducible refine' x_idx ?h ?n ?x ?_); (case h => walk_at "hp"); (case n => assumption); (case x => assumption))
  | ((with_reducible refine' x_SFldA ?h ?c ?n ?l ?_); (case h => walk_at "hp"); (case c => assumption); (case n => assumption); (case l => exact Nat.le_of_ble_eq_true rfl))
  | with_reducible refine' x_MkA ?_
  | ((with_reducible refine' x_DspS ?h ?_); (case h => walk_at "hp"))
  | ((with_reducible refine' x_AlT ?h ?_); (case h => walk_at "sz"))
  | ((with_reducible refine' x_AlL ?h ?_); (case h => walk_at "sz"))
  | ((with_reducible refine' x_Rg1 ?a ?b ?_); (case a => omega); (case b => omega))
  | ((with_reducible refine' x_Rg2 ?a ?b ?c ?d ?_); (case a => omega); (case b => omega); (case c => omega); (case d => omega))
  | with_reducible refine' x_AlO ?_)
local macro_rules | `(tactic| walk_at "s") => `(tactic| first
  | with_reducible refine' x_seq ?_
  | with_reducible refine' x_asg ?_
  | with_reducible refine' x_gname ?_
  | ((with_reducible refine' x_var ?h ?_); (case h => exact rfl))
  | with_reducible refine' x_c ?_
  | with_reducible refine' x_op ?_
  | with_reducible refine' x_cons ?_
  | with_reducible refine' x_nil ?_
  | with_reducible refine' x_cb ?_
  | with_reducible refine' x_ret ?_
  | with_reducible refine' x_ifS ?_
  | with_reducible refine' x_test ?_
  | with_reducible refine' x_B ?_
  | with_reducible refine' x_bl ?_
  | with_reducible refine' x_if ?_
  | with_reducible refine' x_call ?_
  | with_reducible refine' x_tup ?_
  | with_reducible refine' x_lst ?_
  | with_reducible refine' x_gcons ?_
  | with_reducible refine' x_gnil ?_
  | with_reducible refine' x_gsub ?_
  | with_reducible refine' x_next ?_
  | with_reducible refine' x_drop ?_
  | with_reducible refine' x_and ?_
  | with_reducible refine' x_or ?_
  | with_reducible refine' x_not ?_
  | with_reducible refine' x_andV ?_
  | with_reducible refine' x_orV ?_
  | with_reducible refine' x_un ?_
  | with_reducible refine' x_chain ?_
  | with_reducible refine' x_sfld ?_
  | with_reducible refine' x_par ?_
  | with_reducible refine' x_par2 ?_
  | with_reducible refine' x_par3 ?_
  | with_reducible refine' x_par33 ?_
  | with_reducible refine' x_fld ?_
  | with_reducible refine' x_meth ?_
  | with_reducible refine' x_bm ?_
  | with_reducible refine' x_bm0 ?_
  | with_reducible refine' x_forL ?_
  | with_reducible refine' x_forT ?_
  | with_reducible refine' x_forR1 ?_
  | with_reducible refine' x_forET ?_
  | with_reducible refine' x_thn ?_
  | with_reducible refine' x_mk ?_
  | with_reducible refine' x_forEL ?_
  | with_reducible refine' x_forR2 ?_
  | with_reducible refine' x_lcL ?_
  | with_reducible refine' x_lcT ?_
  | with_reducible refine' x_lcR1 ?_
  | with_reducible refine' x_lcR2 ?_
  | with_reducible refine' x_dnew ?_
  | with_reducible refine' x_retN ?_
  | with_reducible refine' x_ff ?_
  | with_reducible refine' x_lrg1 ?_
  | with_reducible refine' x_disp ?_
  | with_reducible refine' x_pnil ?_
  | with_reducible refine' x_pcons ?_
  | with_reducible refine' x_dget ?_
  | with_reducible refine' x_dput ?_
  | with_reducible refine' x_dnewN ?_
  | with_reducible refine' x_nin ?_
  | with_reducible refine' x_nget ?_
  | with_reducible refine' x_nput ?_
  | ((with_reducible refine' x_yes ?e ?_); (case e => first | decide +kernel | exact not_int_non _ | exact not_str_non _))
  | ((with_reducible refine' x_no ?e ?_); (case e => first | decide +kernel | exact int_non _ | exact str_non _ | exact rfl))
  | with_reducible refine' x_lrg2 ?_
  | with_reducible refine' x_tt ?_
  | with_reducible refine' x_break ?_
  | walk_at "i")

def NscPair_first : List Str := ["self", "count", "cell", "found", "at", "told", "what", "done", "state", "spot"]
theorem scPair_first : FnScope NscPair_first ["self", "count", "cell"] (defScope (inC 49 1)) := ⟨rfl, rfl, rfl, by decide +kernel, rfl, by decide +kernel, by decide +kernel⟩
section
variable {P : Program} {w : World} {K : PySem.W.Frag} {mg : Str → Option Value} {base : Heap} {CM CR CP rd et : Addr}
/-- the first event of both, the states moved there -/
def spFirst (CP CM : Addr) : Sp := fun vs H Q _ => ∃ (pr : Addr) (R1 R2 : Rd) (S : Two) (n : Nat) (cell : Int), vs = [.ref pr, .int n, .int cell] ∧ PairAt H CP CM pr R1 R2 S ∧ WF R1 ∧ WF R2 ∧ Live R1.ln S.1 ∧ Live R2.ln S.2 ∧ 0 ≤ cell ∧ cell ≤ 6 ∧ 0 < n ∧ n < 2 ^ 110 ∧
  ∀ (a tl : Addr) (t1 t2 : Option Bool) (near : Nat) (H' : Hp), (∀ b o, b ≠ pr → H b = some o → H' b = some o) → Turn R1.ln R2.ln cell n S (t1, t2) near → (onT (t1, t2) = true → Live R1.ln (iterT R1.ln R2.ln cell near S).1 ∧ Live R2.ln (iterT R1.ln R2.ln cell near S).2) →
    PairAt H' CP CM pr R1 R2 (iterT R1.ln R2.ln cell near S) → H' tl = some (.lst [wdO t1, wdO t2]) → H' a = some (.tup [.ref tl, .int near]) → Q (.ref a) H'
theorem ok_first {f : Addr} {fd : FuncData} (F : L2.Fun K "first" "Pair.first" (inC 49 1) f fd) (G : Gm K mg) (CPok : PcOk K CP) (c_happens : C8.Cal P w K mg base 5 "happens" (spHap CM) []) (c_moved : C8.Met P w K mg base 5 CP "moved" (spMoved CP CM) []) : FnOk P w K mg base C8.CX0 6 f fd ["self", "count", "cell"] (spFirst CP CM) := by
  refine fnN F scPair_first (fun vs H Q E h => ?_) (fun cdv A outer s H vs Q E hr h => ?_)
  · obtain ⟨pr, R1, R2, S, n, cell, rfl, _⟩ := h
    rfl
  obtain ⟨pr, R1, R2, S, n, cell, rfl, hpr, wf1, wf2, lv1, lv2, c0, c1, n0, hN, q⟩ := h
  refine ⟨_, (pss_cons (ps_set (i := 3) scPair_first.nd rfl (Or.inr rfl) (pe_lc (own := [("at", 4)]) rfl scPair_first.nd (pi_tup (pe_tup (pa_cons pe_int (pa_cons pe_int pa_nil)))) (blkOk_by (own := [("at", 4)]) (N := NscPair_first) (sc := defScope (inC 49 1)) (by decide +kernel)) (fun _ _ _ _ _ => (pg_name (i := 4) scPair_first.nd rfl (Or.inl rfl))) (fun _ _ _ _ _ => pts_nil) (fun _ _ _ _ _ => (C8.pe_c c_happens hr (by decide) rfl (pa_cons (pe_ix (b_ixT (K := K) rfl) (b_fld (K := K) rfl (pv 0) rfl) (pv 4) (fun _ _ => rfl)) (pa_cons (pe_ix (b_ixT (K := K) rfl) (b_fld (K := K) rfl (pv 0) rfl) (pv 4) (fun _ _ => rfl)) (pa_cons (pv 1) (pa_cons (pv 2) pa_nil)))))))) (pss_cons (ps_set (i := 4) scPair_first.nd rfl (Or.inr rfl) (pe_callB (cr_min rfl) (by rfl) G.min (by decide +kernel) (pa_cons (pe_op k_cat (pe_lst (pa_cons (pv 1) pa_nil)) (pe_lc (own := [("what", 6), ("done", 7), ("state", 8)]) rfl scPair_first.nd (pi_list (pv 3)) (blkOk_by (own := [("what", 6), ("done", 7), ("state", 8)]) (N := NscPair_first) (sc := defScope (inC 49 1)) (by decide +kernel)) (fun _ _ _ _ _ => (b_gtup (K := K) (n := 3) rfl rfl (pgs_cons (pg_name (i := 6) scPair_first.nd rfl (Or.inl rfl)) (pgs_cons (pg_name (i := 7) scPair_first.nd rfl (Or.inl rfl)) (pgs_cons (pg_name (i := 8) scPair_first.nd rfl (Or.inl rfl)) pgs_nil))))) (fun _ _ _ _ _ => pts_one (pt_cmpR op_notN1 (pv 6) pe_non (nomark _))) (fun _ _ _ _ _ => (pv 7)))) pa_nil))) (pss_cons (ps_setLc (i := 5) (own := [("what", 6), ("done", 7), ("state", 8)]) rfl scPair_first.nd rfl rfl (sw_true rfl rfl rfl (by decide +kernel)) (pi_list (pv 3)) (blkOk_by (own := [("what", 6), ("done", 7), ("state", 8)]) (N := NscPair_first) (sc := defScope (inC 49 1)) (by decide +kernel)) (fun _ _ _ _ _ => (b_gtup (K := K) (n := 3) rfl rfl (pgs_cons (pg_name (i := 6) scPair_first.nd rfl (Or.inl rfl)) (pgs_cons (pg_name (i := 7) scPair_first.nd rfl (Or.inl rfl)) (pgs_cons (pg_name (i := 8) scPair_first.nd rfl (Or.inl rfl)) pgs_nil))))) (fun _ _ _ _ _ => pts_nil) (fun _ _ _ _ _ => (pe_ifExp (pt_cmpR op_eq (pv 7) (pv 4) (nomark _)) (pv 6) pe_non))) (pss_cons (ps_fld (pv 0) (pe_tupleOf rfl G.tuple (pe_lc (own := [("spot", 9)]) rfl scPair_first.nd (pi_tup (pe_tup (pa_cons pe_int (pa_cons pe_int pa_nil)))) (blkOk_by (own := [("spot", 9)]) (N := NscPair_first) (sc := defScope (inC 49 1)) (by decide +kernel)) (fun _ _ _ _ _ => (pg_name (i := 9) scPair_first.nd rfl (Or.inl rfl))) (fun _ _ _ _ _ => pts_nil) (fun _ _ _ _ _ => (C8.pe_mt c_moved hr (by decide) (pv 0) (pa_cons (pv 9) (pa_cons (pe_ix (b_ixL (K := K) rfl) (pv 3) (pv 9) (fun _ _ => rfl)) (pa_cons (pv 4) (pa_cons (pv 2) pa_nil)))))))) rfl) (pss_one (ps_ret (pe_tup (pa_cons (pv 5) (pa_cons (pv 4) pa_nil))))))))), ?_⟩
  rw [show L2.start NscPair_first [.ref pr, .int n, .int cell] = [some (.ref pr), some (.int n), some (.int cell), none, none, none, none, none, none, none] from rfl]; try simp only [cxK, cxK2, cxP, cxW, cxPn, cxWn]
  obtain ⟨cp1, cp2, cp3⟩ := CPok
  obtain ⟨dx, mt, st, m1, m2, a1, a2, h1, h2, h3, h4, h5, h6, h7⟩ := id hpr
  repeat walk_at "s"
  intro z01 H0 nz
  have hz := nz.at_
  repeat walk_at "s"
  refine x_LcTu (SqT.of hz) (fun D i H' => H0 D = none ∧ Same H0 H' ∧ ∃ ts : List Addr, H' D = some (.lst (ts.map V.ref)) ∧ ts.length = i ∧ (∀ t, ts[0]? = some t → ∃ w d s', EvP H' R1 S.1 cell n t w d s') ∧ (∀ t, ts[1]? = some t → ∃ w d s', EvP H' R2 S.2 cell n t w d s')) ?_ ?_ ?_ ?_
  · intro D H1 n1
    exact ⟨n1.fresh, n1.same, [], n1.at_, rfl, (fun t h => nomatch h), fun t h => nomatch h⟩
  · rintro D i H' _ ⟨_, s', _⟩
    exact SqT.of (s' _ _ hz)
  · rintro D i x H1 hx ⟨hD, sm, ts, hD1, hts, g1, g2⟩
    have sm0 := nz.same.trans sm
    obtain ⟨dx', mt', st', m1', m2', a1', a2', k1, k2, k3, k4, k5, k6, k7⟩ := hpr.up sm0
    have hcase : (i = 0 ∧ x = .int 0) ∨ (i = 1 ∧ x = .int 1) := by
      rcases i with _ | _ | i
      · cases hx; exact .inl ⟨rfl, rfl⟩
      · cases hx; exact .inr ⟨rfl, rfl⟩
      · exact nomatch hx
    rcases hcase with ⟨rfl, rfl⟩ | ⟨rfl, rfl⟩
    · have hts0 : ts = [] := List.length_eq_zero_iff.mp hts
      subst hts0
      repeat walk_at "s"
      refine x_LcY rfl ?_
      repeat walk_at "s"
      refine ⟨m1', a1', R1, S.1, n, cell, rfl, k3, wf1, k6, lv1, c0, c1, hN, fun t w d s' H2 z1 z2 => ?_⟩
      have hD2 := z1 _ _ hD1
      refine x_App hD2 (by rw [sizeLine_eq]; decide) fun H3 c3 => ⟨hD, Same.chg (sm.trans z1) hD c3, [t], c3.at_, rfl, fun u hu => ?_, fun u hu => nomatch hu⟩
      cases hu
      exact ⟨w, d, s', z2.chg hD2 c3⟩
    · obtain ⟨t0, rfl⟩ := List.length_eq_one_iff.mp hts
      obtain ⟨w0, d0, s0', k0⟩ := g1 t0 rfl
      repeat walk_at "s"
      refine x_LcY rfl ?_
      repeat walk_at "s"
      refine ⟨m2', a2', R2, S.2, n, cell, rfl, k4, wf2, k7, lv2, c0, c1, hN, fun t w d s' H2 z1 z2 => ?_⟩
      have hD2 := z1 _ _ hD1
      refine x_App hD2 (by rw [sizeLine_eq]; show 1 < 16777216; decide) fun H3 c3 => ⟨hD, Same.chg (sm.trans z1) hD c3, [t0, t], c3.at_, rfl, fun u hu => ?_, fun u hu => ?_⟩
      · cases hu
        exact ⟨w0, d0, s0', (k0.up z1).chg hD2 c3⟩
      · cases hu
        exact ⟨w, d, s', z2.chg hD2 c3⟩
  · rintro D H1 ⟨hD, sm, ts, hD1, hts, g1, g2⟩
    obtain ⟨t1, t2, rfl⟩ : ∃ t1 t2, ts = [t1, t2] := by
      rcases ts with _ | ⟨x, _ | ⟨y, _ | ⟨z, r⟩⟩⟩
      · exact nomatch hts
      · exact nomatch hts
      · exact ⟨x, y, rfl⟩
      · exact absurd hts (by simp)
    obtain ⟨w1, d1, s1', k1⟩ := g1 t1 rfl
    obtain ⟨w2, d2, s2', k2⟩ := g2 t2 rfl
    have sm0 := nz.same.trans sm
    have hD1 : H1 D = some (.lst [.ref t1, .ref t2]) := hD1
    have pr2 : ∀ (i : Nat) x H2, ([V.ref t1, V.ref t2])[i]? = some x → Same H1 H2 → ∃ t sd, x = .ref t ∧ H2 t = some (.tup [wdO (wOf w1 w2 i), .int (dOf d1 d2 i), .ref sd]) := fun i x H2 hx sm2 => by
      rcases i with _ | _ | i
      · cases hx
        obtain ⟨_, sd, f1, _⟩ := k1
        exact ⟨t1, sd, rfl, sm2 _ _ f1⟩
      · cases hx
        obtain ⟨_, sd, f1, _⟩ := k2
        exact ⟨t2, sd, rfl, sm2 _ _ f1⟩
      · exact nomatch hx
    repeat walk_at "s"
    intro rl H2 n2
    have hD2 := n2.up hD1
    repeat walk_at "s"
    refine x_LcLF hD2 (by show 2 < 100000; decide) (fun i => !decide (wOf w1 w2 i = none)) (fun i => .int (dOf d1 d2 i)) ?_ ?_
    · intro i x H3 hx sm3 R3 kR
      obtain ⟨t, sd, rfl, ht⟩ := pr2 i x H3 hx (n2.same.trans sm3)
      repeat walk_at "s"
      refine kR _ rfl ?_ fun _ H4 s4 Q2 k4 => ?_
      · intro QT kt
        repeat walk_at "s"
        rw [wdO_non]
        exact kt _ (Same.refl _)
      · repeat walk_at "s"
        exact k4 _ (Same.refl _)
    intro E3 H3 n3
    have hr3 := n3.up n2.at_
    have hE3 := n3.at_
    have hD3 := n3.up hD2
    refine x_cat hr3 hE3 (by have := gv_len 2 (fun i => !decide (wOf w1 w2 i = none)) (fun i => V.int (dOf d1 d2 i)); show 1 + (gv 2 _ _).length ≤ _; rw [sizeLine_eq]; omega) fun F4 H4 n4 => ?_
    have hF4 := n4.at_
    have hD4 := n4.up hD3
    repeat walk_at "s"
    refine x_min (ns := (n : Int) :: (((List.range 2).filter fun i => !decide (wOf w1 w2 i = none)).map fun i => (dOf d1 d2 i : Int))) hF4 (by show V.int n :: gv 2 _ _ = V.int n :: List.map V.int (List.map _ _); rw [List.map_map]; rfl) (by show 0 < _ + 1; omega) fun near hm hl => ?_
    obtain ⟨near, rfl, ok⟩ := near_of hm hl
    repeat walk_at "s"
    refine x_LcLF hD4 (by show 2 < 100000; decide) (fun i => true) (fun i => wdO (tell (wOf w1 w2 i) (dOf d1 d2 i) near)) ?_ ?_
    · intro i x H5 hx sm5 R3 kR
      obtain ⟨t, sd, rfl, ht⟩ := pr2 i x H5 hx ((n2.same.trans n3.same).trans (n4.same.trans sm5))
      repeat walk_at "s"
      refine kR _ rfl EvB.yes fun _ H6 s6 Q2 k6 => ?_
      have k7 := k6 _ (Same.refl _)
      repeat walk_at "s"
      unfold tell at k7
      refine x_ite (fun h => ?_) (fun h => ?_)
      · rw [if_pos (by omega)] at k7
        repeat walk_at "s"
        exact k7
      · rw [if_neg (by omega)] at k7
        repeat walk_at "s"
        exact k7
    intro W5 H5 n5
    have hW5 : H5 W5 = some (.lst [wdO (tell w1 d1 near), wdO (tell w2 d2 near)]) := n5.at_
    have sm5 : Same H1 H5 := (n2.same.trans n3.same).trans (n4.same.trans n5.same)
    have hpr5 := (hpr.up sm0).up sm5
    have hD5 := sm5 _ _ hD1
    repeat walk_at "s"
    intro z2 H6 n6
    have hz6 := n6.at_
    have hpr6 := hpr5.up n6.same
    have hD6 := n6.up hD5
    have k16 := (k1.up sm5).up n6.same
    have k26 := (k2.up sm5).up n6.same
    repeat walk_at "s"
    refine x_LcTu (SqT.of hz6) (fun D' i H' => H6 D' = none ∧ Same H6 H' ∧ ∃ ts : List Addr, H' D' = some (.lst (ts.map V.ref)) ∧ ts.length = i ∧ (∀ t, ts[0]? = some t → H' t = some (stP (iter R1.ln cell near S.1))) ∧ (∀ t, ts[1]? = some t → H' t = some (stP (iter R2.ln cell near S.2)))) ?_ ?_ ?_ ?_
    · intro D' H7 n7
      exact ⟨n7.fresh, n7.same, [], n7.at_, rfl, (fun t h => nomatch h), fun t h => nomatch h⟩
    · rintro D' i H' _ ⟨_, s', _⟩
      exact SqT.of (s' _ _ hz6)
    · rintro D' i x H7 hx ⟨hD', sm7, ts, hD7, hts, f1, f2⟩
      have hcase : (i = 0 ∧ x = .int 0) ∨ (i = 1 ∧ x = .int 1) := by
        rcases i with _ | _ | i
        · cases hx; exact .inl ⟨rfl, rfl⟩
        · cases hx; exact .inr ⟨rfl, rfl⟩
        · exact nomatch hx
      have hpr7 := hpr6.up sm7
      obtain ⟨dx', mt', st', m1', m2', a1', a2', j1, _⟩ := id hpr7
      have hDD7 := sm7 _ _ hD6
      rcases hcase with ⟨rfl, rfl⟩ | ⟨rfl, rfl⟩
      · have hts0 : ts = [] := List.length_eq_zero_iff.mp hts
        subst hts0
        repeat walk_at "s"
        refine x_LcY rfl ?_
        repeat walk_at "s"
        refine x_MethA j1 rfl ?_
        repeat walk_at "s"
        refine ⟨pr, t1, R1, R2, R1, S, S.1, s1', 0, n, d1, near, cell, w1, rfl, hpr7, .inl ⟨rfl, rfl, rfl⟩, wf1, lv1, c0, c1, hN, k16.up sm7, ok.1, ok.2.1, fun sd H8 y1 y2 => ?_⟩
        have hD8 := y1 _ _ hD7
        repeat walk_at "s"
        refine x_App hD8 (by rw [sizeLine_eq]; decide) fun H9 c9 => ⟨hD', Same.chg (sm7.trans y1) hD' c9, [sd], c9.at_, rfl, fun u hu => ?_, fun u hu => nomatch hu⟩
        cases hu
        exact c9.up (ne_of y2 hD8 (fun z => nomatch z)) y2
      · obtain ⟨b0, rfl⟩ := List.length_eq_one_iff.mp hts
        have hb0 := f1 b0 rfl
        repeat walk_at "s"
        refine x_LcY rfl ?_
        repeat walk_at "s"
        refine x_MethA j1 rfl ?_
        repeat walk_at "s"
        refine ⟨pr, t2, R1, R2, R2, S, S.2, s2', 1, n, d2, near, cell, w2, rfl, hpr7, .inr ⟨rfl, rfl, rfl⟩, wf2, lv2, c0, c1, hN, k26.up sm7, ok.1, ok.2.2.1, fun sd H8 y1 y2 => ?_⟩
        have hD8 := y1 _ _ hD7
        have hb8 := y1 _ _ hb0
        repeat walk_at "s"
        refine x_App hD8 (by rw [sizeLine_eq]; show 1 < 16777216; decide) fun H9 c9 => ⟨hD', Same.chg (sm7.trans y1) hD' c9, [b0, sd], c9.at_, rfl, fun u hu => ?_, fun u hu => ?_⟩
        · cases hu
          exact c9.up (ne_of hb8 hD8 (fun z => nomatch z)) hb8
        · cases hu
          exact c9.up (ne_of y2 hD8 (fun z => nomatch z)) y2
    · rintro D' H7 ⟨hD', sm7, ts, hD7, hts, f1, f2⟩
      obtain ⟨b1, b2, rfl⟩ : ∃ b1 b2, ts = [b1, b2] := by
        rcases ts with _ | ⟨x, _ | ⟨y, _ | ⟨z, r⟩⟩⟩
        · exact nomatch hts
        · exact nomatch hts
        · exact ⟨x, y, rfl⟩
        · exact absurd hts (by simp)
      have hD7 : H7 D' = some (.lst [.ref b1, .ref b2]) := hD7
      obtain ⟨dx', mt', st', m1', m2', a1', a2', j1, j2, j3, j4, j5, j6, j7⟩ := hpr6.up sm7
      have hW7 : H7 W5 = some (.lst [wdO (tell w1 d1 near), wdO (tell w2 d2 near)]) := sm7 _ _ (n6.up hW5)
      have hb1 := f1 b1 rfl
      have hb2 := f2 b2 rfl
      repeat walk_at "s"
      intro st2 H8 n8
      have j18 := n8.up j1
      repeat walk_at "s"
      intro H9 c9
      have tk : ∀ {q : Addr} {o : HO}, H8 q = some o → (∀ C dx fs, o ≠ .ins C dx fs) → H9 q = some o := fun h hn => c9.up (ne_of h j18 (hn _ _ _)) h
      have hW9 := tk (n8.up hW7) nofun
      repeat walk_at "s"
      intro a Ha na
      have sm8 : Same H H8 := ((sm0.trans sm5).trans n6.same).trans (sm7.trans n8.same)
      obtain ⟨hturn, hnn⟩ := turn_of wf1 wf2 ⟨c0, c1⟩ n0 (.inr lv1) (.inr lv2) k1.1 k2.1 ok
      refine q a W5 _ _ near Ha (fun b o hb e => na.up (c9.up hb (sm8 _ _ e))) hturn (fun hon => ?_) ?_ (na.up hW9) na.at_
      · obtain ⟨p1, p2, ⟨ht, _, _⟩ | ⟨ht, _, hit⟩ | ⟨ht, _⟩⟩ := hturn
        · obtain ⟨dd1, dd2⟩ := hnn ht
          obtain ⟨y1, y2⟩ := evt_none wf1 ⟨c0, c1⟩ lv1 k1.1 (congrArg Prod.fst ht) dd1
          obtain ⟨y3, y4⟩ := evt_none wf2 ⟨c0, c1⟩ lv2 k2.1 (congrArg Prod.snd ht) dd2
          rw [y2] at y1
          rw [y4] at y3
          exact ⟨y1, y3⟩
        · rw [hit]
          exact ⟨beg_live wf1, beg_live wf2⟩
        · rw [hon] at ht
          exact nomatch ht
      · have p9 : PairAt H9 CP CM pr R1 R2 (iterT R1.ln R2.ln cell near S) :=
          ⟨dx', mt', st2, m1', m2', b1, b2, c9.at_, tk (n8.up j2) nofun, (j3.up n8.same).kpx j18 nofun (fun b o hb e => c9.up hb e), (j4.up n8.same).kpx j18 nofun (fun b o hb e => c9.up hb e), tk n8.at_ nofun, tk (n8.up hb1) nofun, tk (n8.up hb2) nofun⟩
        exact p9.up na.same
end
end
end K21
end

section
set_option maxRecDepth 100000
set_option maxHeartbeats 4000000
namespace K21
open PySem PySem.Spec PyProof.Rows L2
noncomputable section
local macro_rules | `(tactic| walk_at "hp") => `(tactic| first
  | assumption
  | ((with_reducible refine' At.h ?q); (case q => assumption))
  | ((with_reducible refine' New.at_ ?q); (case q => assumption))
  | ((with_reducible refine' Chg.at_ ?q); (case q => assumption))
  | ((with_reducible refine' New.up ?n ?q); (case n => assumption); (case q => walk_at "hp"))
  | ((with_reducible refine' Same.up ?n ?q); (case n => assumption); (case q => walk_at "hp")))
local macro_rules | `(tactic| walk_at "sz") => `(tactic| first | exact Nat.le_of_ble_eq_true rfl | assumption | omega)
local macro_rules | `(tactic| walk_at "i") => `(tactic| first
  | with_reducible refine' x_I0 ?_
  | ((with_reducible refine' x_I ?c ?_); (case c => first | assumption | (show (_ : Int) ≠ 0; omega) | exact .inr ⟨by decide, by decide⟩ | exact .inl ⟨by decide, by decide⟩ | (refine ⟨?_, ?_⟩ <;> first | decide | omega)))
  | with_reducible refine' x_eqI ?_
  | with_reducible refine' x_neI ?_
  | with_reducible refine' x_eqS ?_
  | with_reducible refine' x_neS ?_
  | with_reducible refine' x_isN ?_
  | with_reducible refine' x_notN ?_
  | with_reducible refine' x_U ?_
  | with_reducible refine' x_int ?_
  | with_reducible refine' x_intB ?_
  | with_reducible refine' x_min2 ?_
  | with_reducible refine' x_max2 ?_
  | ((with_reducible refine' x_ixLh ?h ?v ?_); (case h => walk_at "hp"); (case v => first | exact rfl | assumption))
  | ((with_reducible refine' x_ixTh ?h ?v ?_); (case h => walk_at "hp"); (case v => first | exact rfl | assumption))
  | ((with_reducible refine' x_lenL ?h ?_); (case h => walk_at "hp"))
  | ((with_reducible refine' x_lenT ?h ?_); (case h => walk_at "hp"))
  | ((with_reducible refine' x_gtuph ?h ?l ?_); (case h => walk_at "hp"); (case l => exact rfl))
  | ((with_reducible refine' x_BmAh ?h ?_); (case h => walk_at "hp"))
  | ((with_reducible refine' x_BmA0h ?h ?_); (case h => walk_at "hp"))
  | ((with_reducible refine' x_inStr ?h ?_); (case h => walk_at "hp"))
  | ((with_reducible refine' x_ninStr ?h ?_); (case h => walk_at "hp"))
  | ((with_reducible refine' x_inInt ?h ?_); (case h => walk_at "hp"))
  | ((with_reducible refine' x_ninInt ?h ?_); (case h => walk_at "hp"))
  | ((with_reducible refine' x_inL ?h ?f ?g ?_); (case h => walk_at "hp"); (case f => exact rfl); (case g => first | exact rfl | assumption))
  | ((with_reducible refine' x_inR ?h ?f ?g ?_); (case h => assumption); (case f => exact rfl); (case g => exact rfl))
  | ((with_reducible refine' x_inT ?h ?f ?g ?_); (case h => walk_at "hp"); (case f => exact rfl); (case g => first | exact rfl | assumption))
  | ((with_reducible refine' x_notInL ?h ?f ?g ?_); (case h => walk_at "hp"); (case f => exact rfl); (case g => first | exact rfl | assumption))
  | ((with_reducible refine' x_setL ?h ?j ?_); (case h => walk_at "hp"); (case j => first | exact rfl | assumption))
  | ((with_reducible refine' x_append ?h ?l ?_); (case h => walk_at "hp"); (case l => walk_at "sz"))
  | ((with_reducible refine' x_neNil ?h ?g ?_); (case h => walk_at "hp"); (case g => walk_at "hp"))
  | ((with_reducible refine' x_eqNil ?h ?g ?_); (case h => walk_at "hp"); (case g => walk_at "hp"))
  | ((with_reducible refine' x_DgA ?h ?v ?_); (case h => walk_at "hp"); (case v => first | exact stK_at _ _ _ | exact bkK_first _ _ | exact bkK_lines _ _ | exact stK_kept _ _ _ | exact stK_left _ _ _ | assumption))
  | ((with_reducible refine' x_FldA ?h ?c ?n ?l ?_); (case h => walk_at "hp"); (case c => assumption); (case n => assumption); (case l => first | exact rfl | assumption))
  | ((with_reducible refine' x_truL ?h ?_); (case h => walk_at "hp"))
  | ((with_reducible refine' x_truT ?h ?_); (case h => walk_at "hp"))
  | ((with_reducible refine' x_kTupL ?h ?_); (case h => walk_at "hp"))
  | ((with_reducible refine' x_kTupT ?h ?_); (case h => walk_at "hp"))
  | ((with_reducible refine' x_idx ?h ?n ?x ?_); (case h => walk_at "hp"); (case n => assumption); (case x => assumption))
  | ((with_reducible refine' x_SFldA ?h ?c ?n ?l ?_); (case h => walk_at "hp"); (case c => assumption); (case n => assumption); (case l => exact Nat.le_of_ble_eq_true rfl))
  | with_reducible refine' x_MkA ?_
  | ((with_reducible refine' x_DspS ?h ?_); (case h => walk_at "hp"))
  | ((with_reducible refine' x_AlT ?h ?_); (case h => walk_at "sz"))
  | ((with_reducible refine' x_AlL ?h ?_); (case h => walk_at "sz"))
  | ((with_reducible refine' x_Rg1 ?a ?b ?_); (case a => omega); (case b => omega))
  | ((with_reducible refine' x_Rg2 ?a ?b ?c ?d ?_); (case a => omega); (case b => omega); (case c => omega); (case d => omega))
  | with_reducible refine' x_AlO ?_)
local macro_rules | `(tactic| walk_at "s") => `(tactic| first
  | with_reducible refine' x_seq ?_
  | with_reducible refine' x_asg ?_
  | with_reducible refine' x_gname ?_
  | ((with_reducible refine' x_var ?h ?_); (case h => exact rfl))
  | with_reducible refine' x_c ?_
  | with_reducible refine' x_op ?_
  | with_reducible refine' x_cons ?_
  | with_reducible refine' x_nil ?_
  | with_reducible refine' x_cb ?_
  | with_reducible refine' x_ret ?_
  | with_reducible refine' x_ifS ?_
  | with_reducible refine' x_test ?_
  | with_reducible refine' x_B ?_
  | with_reducible refine' x_bl ?_
  | with_reducible refine' x_if ?_
  | with_reducible refine' x_call ?_
  | with_reducible refine' x_tup ?_
  | with_reducible refine' x_lst ?_
  | with_reducible refine' x_gcons ?_
  | with_reducible refine' x_gnil ?_
  | with_reducible refine' x_gsub ?_
  | with_reducible refine' x_next ?_
  | with_reducible refine' x_drop ?_
  | with_reducible refine' x_and ?_
  | with_reducible refine' x_or ?_
  | with_reducible refine' x_not ?_
  | with_reducible refine' x_andV ?_
  | with_reducible refine' x_orV ?_
  | with_reducible refine' x_un ?_
  | with_reducible refine' x_chain ?_
  | with_reducible refine' x_sfld ?_
  | with_reducible refine' x_par ?_
  | with_reducible refine' x_par2 ?_
  | with_reducible refine' x_par3 ?_
  | with_reducible refine' x_par33 ?_
  | with_reducible refine' x_fld ?_
  | with_reducible refine' x_meth ?_
  | with_reducible refine' x_bm ?_
  | with_reducible refine' x_bm0 ?_
  | with_reducible refine' x_forL ?_
  | with_reducible refine' x_forT ?_
  | with_reducible refine' x_forR1 ?_
  | with_reducible refine' x_forET ?_
  | with_reducible refine' x_thn ?_
  | with_reducible refine' x_mk ?_
  | with_reducible refine' x_forEL ?_
  | with_reducible refine' x_forR2 ?_
  | with_reducible refine' x_lcL ?_
  | with_reducible refine' x_lcT ?_
  | with_reducible refine' x_lcR1 ?_
  | with_reducible refine' x_lcR2 ?_
  | with_reducible refine' x_dnew ?_
  | with_reducible refine' x_retN ?_
  | with_reducible refine' x_ff ?_
  | with_reducible refine' x_lrg1 ?_
  | with_reducible refine' x_disp ?_
  | with_reducible refine' x_pnil ?_
  | with_reducible refine' x_pcons ?_
  | with_reducible refine' x_dget ?_
  | with_reducible refine' x_dput ?_
  | with_reducible refine' x_dnewN ?_
  | with_reducible refine' x_nin ?_
  | with_reducible refine' x_nget ?_
  | with_reducible refine' x_nput ?_
  | ((with_reducible refine' x_yes ?e ?_); (case e => first | decide +kernel | exact not_int_non _ | exact not_str_non _))
  | ((with_reducible refine' x_no ?e ?_); (case e => first | decide +kernel | exact int_non _ | exact str_non _ | exact rfl))
  | with_reducible refine' x_lrg2 ?_
  | with_reducible refine' x_tt ?_
  | with_reducible refine' x_break ?_
  | walk_at "i")

def NscPair_unlike : List Str := ["self", "count", "cell", "done", "ring", "told", "at"]
theorem scPair_unlike : FnScope NscPair_unlike ["self", "count", "cell"] (defScope (inC 49 3)) := ⟨rfl, rfl, rfl, by decide +kernel, rfl, by decide +kernel, by decide +kernel⟩
section
variable {P : Program} {w : World} {K : PySem.W.Frag} {mg : Str → Option Value} {base : Heap} {CM CR CP rd et : Addr}
/-- the first parting within a run -/
def spUnl (CP CM : Addr) : Sp := fun vs H Q _ => ∃ (pr : Addr) (R1 R2 : Rd) (S : Two) (n : Nat) (cell : Int), vs = [.ref pr, .int n, .int cell] ∧ PairAt H CP CM pr R1 R2 S ∧ WF R1 ∧ WF R2 ∧ Live R1.ln S.1 ∧ Live R2.ln S.2 ∧ 0 ≤ cell ∧ cell ≤ 6 ∧ n < 2 ^ 110 ∧
  ∀ (v : V) (H' : Hp), (∀ b o, b ≠ pr → H b = some o → H' b = some o) → ((∃ S', scan R1.ln R2.ln cell n S = .go S' ∧ v = .non ∧ PairAt H' CP CM pr R1 R2 S' ∧ Live R1.ln S'.1 ∧ Live R2.ln S'.2) ∨
    (∃ t1 t2 p a tl, scan R1.ln R2.ln cell n S = .stop (t1, t2) p ∧ v = .ref a ∧ H' a = some (.tup [.ref tl, .int (p : Nat)]) ∧ H' tl = some (.lst [wdO t1, wdO t2]))) → Q v H'
theorem ok_unl {f : Addr} {fd : FuncData} (F : L2.Fun K "unlike" "Pair.unlike" (inC 49 3) f fd) (G : Gm K mg) (c_first : C8.Met P w K mg base 6 CP "first" (spFirst CP CM) []) : FnOk P w K mg base C8.CX0 7 f fd ["self", "count", "cell"] (spUnl CP CM) := by
  refine fnN F scPair_unlike (fun vs H Q E h => ?_) (fun cdv A outer s H vs Q E hr h => ?_)
  · obtain ⟨pr, R1, R2, S, n, cell, rfl, _⟩ := h
    rfl
  obtain ⟨pr, R1, R2, S, n, cell, rfl, hpr, wf1, wf2, lv1, lv2, c0, c1, hN, q⟩ := h
  refine ⟨_, (pss_cons (ps_asg (pe_tup (pa_cons pe_int (pa_cons pe_int pa_nil))) (pg_tup rfl (pgs_cons (pg_name (i := 3) scPair_unlike.nd rfl (Or.inl rfl)) (pgs_cons (pg_name (i := 4) scPair_unlike.nd rfl (Or.inl rfl)) pgs_nil)))) (pss_cons (ps_while PassesOwn.never (pt_cmpR op_lt (pv 3) (pv 1) (nomark _)) (pss_cons (ps_asg (C8.pe_mt c_first hr (by decide) (pv 0) (pa_cons (pe_op op_sub (pv 1) (pv 3)) (pa_cons (pv 2) pa_nil))) (pg_tup rfl (pgs_cons (pg_name (i := 5) scPair_unlike.nd rfl (Or.inl rfl)) (pgs_cons (pg_name (i := 6) scPair_unlike.nd rfl (Or.inl rfl)) pgs_nil)))) (pss_cons (ps_if (pt_cmpR (op_eqD hr.units) (pv 5) (pe_lst (pa_cons pe_non (pa_cons pe_non pa_nil))) (nomark _)) (pss_one (ps_ret pe_non)) pss_nil) (pss_cons (ps_if (pt_cmpR (op_neD hr.units) (pv 5) (pe_lst (pa_cons pe_str (pa_cons pe_str pa_nil))) (nomark _)) (pss_one (ps_ret (pe_tup (pa_cons (pv 5) (pa_cons (pe_op op_add (pv 3) (pv 6)) pa_nil))))) pss_nil) (pss_cons (ps_set (i := 3) scPair_unlike.nd rfl (Or.inl rfl) (pe_op op_add (pv 3) (pv 6))) (pss_cons (ps_if (pt_cmpR op_eq (pv 6) (pv 4) (nomark _)) (pss_one (ps_set (i := 3) scPair_unlike.nd rfl (Or.inl rfl) (pe_op op_add (pv 3) (pe_op op_mulW (pe_op op_fdivW (pe_op op_sub (pv 1) (pv 3)) (pv 4)) (pv 4))))) pss_nil) (pss_one (ps_set (i := 4) scPair_unlike.nd rfl (Or.inl rfl) (pv 6))))))))) (pss_one (ps_ret pe_non)))), ?_⟩
  rw [show L2.start NscPair_unlike [.ref pr, .int n, .int cell] = [some (.ref pr), some (.int n), some (.int cell), none, none, none, none] from rfl]; try simp only [cxK, cxK2, cxP, cxW, cxPn, cxWn]
  repeat walk_at "s"
  intro u0 H0 nu
  repeat walk_at "s"
  refine x_while (fun m σ H' => ∃ (d g : Nat) (S' : Two) (x5 x6 : Option V), σ = [some (.ref pr), some (.int n), some (.int cell), some (.int d), some (.int g), x5, x6] ∧ (∀ b o, b ≠ pr → H b = some o → H' b = some o) ∧ d ≤ n ∧ PairAt H' CP CM pr R1 R2 S' ∧ Live R1.ln S'.1 ∧ Live R2.ln S'.2 ∧
    scan R1.ln R2.ln cell n S = (scan R1.ln R2.ln cell (n - d) S').sh d ∧ (g ≠ 0 → S' = (begS R1.ln, begS R2.ln)) ∧ m = n - d) n ?_ ?_
  · exact ⟨0, 0, S, none, none, rfl, fun b o _ e => nu.up e, Nat.zero_le _, hpr.up nu.same, lv1, lv2, (Res.sh_zero _).symm, fun z => absurd rfl z, rfl⟩
  · rintro mm σ H1 ⟨d, g, S1, x5, x6, rfl, k1, hdn, hp1, l1, l2, hsc, hg, hm⟩
    repeat walk_at "s"
    by_cases hlt : (d : Int) < n
    · rw [decide_eq_true hlt]
      refine x_whT ?_
      obtain ⟨dx, mt, st, m1, m2, a1, a2, j1, _⟩ := id hp1
      repeat walk_at "s"
      refine x_MethA j1 rfl ?_
      repeat walk_at "s"
      rw [show (n : Int) - (d : Int) = ((n - d : Nat) : Int) by omega]
      refine ⟨pr, R1, R2, S1, n - d, cell, rfl, hp1, wf1, wf2, l1, l2, c0, c1, by omega, by omega, fun a tl t1 t2 near H2 k2 hT hlv hp2 htl ha => ?_⟩
      have k12 : ∀ b o, b ≠ pr → H b = some o → H2 b = some o := fun b o hb e => k2 b o hb (k1 b o hb e)
      obtain ⟨p1, p2, hT⟩ := hT
      rcases hT with ⟨ht, hnear, hscan⟩ | ⟨ht, hscan, hit⟩ | ⟨ht, hscan⟩
      · repeat walk_at "s"
        intro w1 H3 n3
        refine x_eqW (c := none) (d := none) (n3.up htl) n3.at_ ?_
        repeat walk_at "s"
        refine x_yes (decide_eq_true ht) ?_
        repeat walk_at "s"
        obtain ⟨y1, y2⟩ := hlv (by rw [ht]; rfl)
        refine q .non H3 (fun b o hb e => n3.up (k12 b o hb e)) (.inl ⟨_, ?_, rfl, hp2.up n3.same, y1, y2⟩)
        rw [hsc, ← hnear, hscan] <;> rfl
      · have hne : ¬ (t1, t2) = (none, none) := by rw [ht]; exact nofun
        have htl : H2 tl = some (.lst [wdO t1, wdO t2]) := htl
        repeat walk_at "s"
        intro w1 H3 n3
        have htl3 := n3.up htl
        refine x_eqW (c := none) (d := none) htl3 n3.at_ ?_
        repeat walk_at "s"
        refine x_no (decide_eq_false hne) ?_
        repeat walk_at "s"
        intro w2 H4 n4
        refine x_neW (c := some true) (d := some true) (n4.up htl3) n4.at_ ?_
        repeat walk_at "s"
        refine x_no (by rw [decide_eq_true ht]; rfl) ?_
        have p4 := (hp2.up n3.same).up n4.same
        rw [hit] at p4
        have k14 : ∀ b o, b ≠ pr → H b = some o → H4 b = some o := fun b o hb e => n4.up (n3.up (k12 b o hb e))
        repeat walk_at "s"
        rw [show (d : Int) + (near : Int) = ((d + near : Nat) : Int) by omega]
        have step : ∀ (wh : Nat), near + wh ≤ n - d → scan R1.ln R2.ln cell (near + wh) S1 = .go (begS R1.ln, begS R2.ln) → scan R1.ln R2.ln cell n S = (scan R1.ln R2.ln cell (n - (d + near + wh)) (begS R1.ln, begS R2.ln)).sh (d + near + wh) := fun wh h1 h2 => by
          rw [hsc, show n - d = (near + wh) + (n - (d + near + wh)) by omega, scan_add, h2]
          show ((scan R1.ln R2.ln cell (n - (d + near + wh)) (begS R1.ln, begS R2.ln)).sh (near + wh)).sh d = _
          rw [Res.sh_sh, show d + (near + wh) = d + near + wh by omega]
        refine x_ite (fun hgn => ?_) (fun hgn => ?_)
        · have hgn : near = g := by omega
          have hS : S1 = (begS R1.ln, begS R2.ln) := hg (by omega)
          have er : (n : Int) - ((d + near : Nat) : Int) = ((n - (d + near) : Nat) : Int) := by omega
          have edv : ((n : Int) - ((d + near : Nat) : Int)) / (g : Int) = (((n - (d + near)) / g : Nat) : Int) := by rw [er]; rfl
          have hwd : CDivW ((n : Int) - ((d + near : Nat) : Int)) (g : Int) := wide_div (b := 110) (by omega) (nat_bd (by omega : g ≤ n) hN) (by decide) (by decide)
          have hqn : (n - (d + near)) / g ≤ n - (d + near) := Nat.div_le_self ..
          have hwm : CMulW (((n : Int) - ((d + near : Nat) : Int)) / (g : Int)) (g : Int) := by rw [edv]; exact wide_mul (a := 110) (b := 110) (nat_bd (Nat.le_trans hqn (by omega)) hN) (nat_bd (by omega : g ≤ n) hN) (by decide) (by decide) (by decide)
          have hdm : (n - (d + near)) / g * g ≤ n - (d + near) := Nat.div_mul_le_self ..
          repeat walk_at "s"
          rw [show ((d + near : Nat) : Int) + ((n : Int) - ((d + near : Nat) : Int)) / (g : Int) * (g : Int) = ((d + near + (n - (d + near)) / g * g : Nat) : Int) by rw [edv]; rfl]
          repeat walk_at "s"
          subst hgn
          refine ⟨n - (d + near + (n - (d + near)) / near * near), by omega, d + near + (n - (d + near)) / near * near, near, _, _, _, rfl, k14, by omega, p4, beg_live wf1, beg_live wf2, step _ (by omega) ?_, fun _ => rfl, rfl⟩
          rw [hS] at hscan ⊢
          exact scan_whole hscan
        · repeat walk_at "s"
          refine ⟨n - (d + near), by omega, d + near, near, _, _, _, rfl, k14, by omega, p4, beg_live wf1, beg_live wf2, ?_, fun _ => rfl, rfl⟩
          exact step 0 (by omega) hscan
      · have hne1 : ¬ (t1, t2) = (none, none) := fun z => by rw [z] at ht; exact nomatch ht
        have hne2 : ¬ (t1, t2) = (some true, some true) := fun z => by rw [z] at ht; exact nomatch ht
        repeat walk_at "s"
        intro w1 H3 n3
        have htl3 := n3.up htl
        refine x_eqW (c := none) (d := none) htl3 n3.at_ ?_
        repeat walk_at "s"
        refine x_no (decide_eq_false hne1) ?_
        repeat walk_at "s"
        intro w2 H4 n4
        have htl4 := n4.up htl3
        refine x_neW (c := some true) (d := some true) htl4 n4.at_ ?_
        repeat walk_at "s"
        refine x_yes (by rw [decide_eq_false hne2]; rfl) ?_
        repeat walk_at "s"
        intro u H5 n5
        rw [show (d : Int) + (near : Int) = ((d + near : Nat) : Int) by omega] at n5
        refine q (.ref u) H5 (fun b o hb e => n5.up (n4.up (n3.up (k12 b o hb e)))) (.inr ⟨t1, t2, d + near, u, tl, ?_, rfl, n5.at_, n5.up htl4⟩)
        rw [hsc, scan_stop _ _ hscan p2] <;> rfl
    · rw [decide_eq_false hlt]
      refine x_whF ?_
      repeat walk_at "s"
      have hd : d = n := by omega
      refine q .non H1 k1 (.inl ⟨S1, ?_, rfl, hp1, l1, l2⟩)
      rw [hsc, hd, Nat.sub_self] <;> rfl
end
end
end K21
end

section
set_option maxRecDepth 100000
set_option maxHeartbeats 4000000
/-! K12: list(x), a class in a slot called, a classmethod called. -/
namespace K21
open PySem PySem.Spec PyProof.Rows L2
noncomputable section
def rLs (K : PySem.W.Frag) : List V → Hp → VK → Prop := fun xs H Q => ∃ p ys, xs = [.ref p] ∧ (SqL K H p ys ∨ SqT K H p ys) ∧ ∀ l, H l = none → Q (.ref l) (upd H l (.lst ys))
theorem k_list {X : Cx} : CallR X (.type "list") (rLs X.K) := call_list_of
def tNo : TE := fun _ _ _ => False
theorem k_never {X : Cx} {e : Expr} : PE X e tNo := ⟨fun _ _ _ _ _ _ h => h.elim⟩
def tMakeV (i : Nat) (C : Addr) (sp : Sp) (dvs : List V) (E : XK) (t : TA) : TE := fun σ H Q => σ[i]? = some (some (.ref C)) ∧ t σ H fun vs H1 => MkA C sp dvs E vs H1 Q
/-- a classmethod of the class at C -/
structure CmR (P : Program) (w : World) (K : PySem.W.Frag) (mg : Str → Option Value) (base : Heap) (k : Nat) (C : Addr) (m : Str) (sp : Sp) : Prop where
  ex : ∃ (mc : Value) (p g : Addr), ClX.CRead K C mc ∧ ClX.CMet K C mc m p g ∧ FnR P w K mg base C8.CX0 k g sp
section
variable {X : Cx} {k j i : Nat} {C : Addr} {x y m : Str} {sp : Sp} {dvs : List V} {p pos apos : Pos} {e o : Expr} {es : List Expr} {ta : TE} {t : TA}
theorem pe_mkv (c : C8.Mak X.prog X.w X.K X.mg X.base k y C sp dvs) (hr : Room j X.A) (hk : k + 1 ≤ j) (ha : PA X (e :: es) t) (hN : X.N[i]? = some x := by rfl) (hv : Vis X.env.scope x := by first | exact Or.inl rfl | exact Or.inr (Or.inl rfl) | exact Or.inr (Or.inr rfl))
    (hdb : (x == ("__debug__" : Str)) = false := by decide) (hcd : (x == ("__classdict__" : Str)) = false := by decide)
    (he : starEach (e :: es) X.env = (false, eval e X.env) :: starEach es X.env := by rfl) (hpl : (backTo pos (starEach es X.env)).any (·.1) = false := by rfl) : PE X (.Call (.Name x p) (e :: es) [] pos) (tMakeV i C sp dvs C8.E0 t) := by
  obtain ⟨f, fd, ps, ds, M, F, hm, hb, hd⟩ := c.ex
  refine ⟨fun pins s σ H Q I h => ?_⟩
  obtain ⟨hs, ht⟩ := h
  refine wpAny_Call_Name_kw (thn ((pe_var (pos := p) hN hv hdb hcd).run pins s σ H (fun v H1 => v = .ref C ∧ H1 = H) I ⟨.ref C, hs, rfl, rfl⟩) fun u s1 ⟨v, H1, I1, r1, q1⟩ => ?_)
  obtain ⟨rfl, rfl⟩ := q1
  cases r1
  refine PySem.W.callWith_K (h₀ := X.base) I.ok.mod.kin M.kp (thn (ha.run pos pins s1 σ _ _ I1 ht) fun us s2 ⟨vs, H2, I2, r, q⟩ => ⟨I2.kIn, ?_⟩) he hpl
  exact run_make M F (hr.mono hk) hb hd C8.pass0 I2 r q
theorem pe_cm {pl : Sem Bool} (c : CmR X.prog X.w X.K X.mg X.base k C m sp) (hr : Room j X.A) (hk : k ≤ j) (he : PE X o ta) (ha : PA X (e :: es) t)
    (hst : starEach (e :: es) X.env = (false, eval e X.env) :: starEach es X.env := by rfl) (hpl : (backTo pos (starEach es X.env)).any (·.1) = false := by rfl)
    (ht : eval (.Call (.Attribute o m apos) (e :: es) [] pos) X.env = (do
      let ov ← eval o X.env
      standAt apos.atName
      let (f, first) ← holding [ov] (getMethod ov m pl)
      callWith pos f first (backTo pos (starEach (e :: es) X.env)) (backToKw pos (keywordEach [] X.env))) := by rfl) :
    PE X (.Call (.Attribute o m apos) (e :: es) [] pos) (ClX.tCMeth C sp C8.E0 ta t) := by
  obtain ⟨mc, p, g, r, c2, F⟩ := c.ex
  exact ClX.pe_cmeth (pl := pl) he r c2 F (hr.mono hk) C8.pass0 ha hst hpl ht
end
section
variable {σ : L2.St} {H : Hp} {Q : VK} {K : PySem.W.Frag} {ta : TE} {t : TA} {C : Addr} {sp : Sp} {dvs : List V} {E : XK}
theorem x_lsL {a : Addr} {xs : List V} (h : H a = some (.lst xs)) (k : ∀ p H2, New H H2 p (.lst xs) → Q (.ref p) H2) : rLs K [.ref a] H Q := ⟨a, xs, rfl, .inl (SqL.of h), fun q hq => k q _ (New.of hq)⟩
theorem x_lsT {a : Addr} {xs : List V} (h : H a = some (.tup xs)) (k : ∀ p H2, New H H2 p (.lst xs) → Q (.ref p) H2) : rLs K [.ref a] H Q := ⟨a, xs, rfl, .inr (SqT.of h), fun q hq => k q _ (New.of hq)⟩
theorem x_mkv {i : Nat} (h : σ[i]? = some (some (.ref C))) (k : t σ H fun vs H1 => MkA C sp dvs E vs H1 Q) : tMakeV i C sp dvs E t σ H Q := ⟨h, k⟩
def CmA (C : Addr) (sp : Sp) (E : XK) (t : TA) (σ : L2.St) (x : V) (H : Hp) (Q : VK) : Prop := x = .ref C ∧ t σ H fun vs H2 => sp (.ref C :: vs) H2 Q E
theorem x_cm (k : ta σ H fun x H1 => CmA C sp E t σ x H1 Q) : ClX.tCMeth C sp E ta t σ H Q := k
theorem x_CmA (k : t σ H fun vs H2 => sp (.ref C :: vs) H2 Q E) : CmA C sp E t σ (.ref C) H Q := ⟨rfl, k⟩
end
end
end K21
end

section
set_option maxRecDepth 100000
set_option maxHeartbeats 4000000
namespace K21
open PySem PySem.Spec PyProof.Rows L2
noncomputable section
local macro_rules | `(tactic| walk_at "hp") => `(tactic| first
  | assumption
  | ((with_reducible refine' At.h ?q); (case q => assumption))
  | ((with_reducible refine' New.at_ ?q); (case q => assumption))
  | ((with_reducible refine' Chg.at_ ?q); (case q => assumption))
  | ((with_reducible refine' New.up ?n ?q); (case n => assumption); (case q => walk_at "hp"))
  | ((with_reducible refine' Same.up ?n ?q); (case n => assumption); (case q => walk_at "hp")))
local macro_rules | `(tactic| walk_at "sz") => `(tactic| first | exact Nat.le_of_ble_eq_true rfl | assumption | omega)
local macro_rules | `(tactic| walk_at "i") => `(tactic| first
  | with_reducible refine' x_I0 ?_
  | ((with_reducible refine' x_I ?c ?_); (case c => first | assumption | (show (_ : Int) ≠ 0; omega) | exact .inr ⟨by decide, by decide⟩ | exact .inl ⟨by decide, by decide⟩ | (refine ⟨?_, ?_⟩ <;> first | decide | omega)))
  | with_reducible refine' x_eqI ?_
  | with_reducible refine' x_neI ?_
  | with_reducible refine' x_eqS ?_
  | with_reducible refine' x_neS ?_
  | with_reducible refine' x_isN ?_
  | with_reducible refine' x_notN ?_
  | with_reducible refine' x_U ?_
  | with_reducible refine' x_int ?_
  | with_reducible refine' x_intB ?_
  | with_reducible refine' x_min2 ?_
  | with_reducible refine' x_max2 ?_
  | ((with_reducible refine' x_ixLh ?h ?v ?_); (case h => walk_at "hp"); (case v => first | exact rfl | assumption))
  | ((with_reducible refine' x_ixTh ?h ?v ?_); (case h => walk_at "hp"); (case v => first | exact rfl | assumption))
  | ((with_reducible refine' x_lenL ?h ?_); (case h => walk_at "hp"))
  | ((with_reducible refine' x_lenT ?h ?_); (case h => walk_at "hp"))
  | ((with_reducible refine' x_gtuph ?h ?l ?_); (case h => walk_at "hp"); (case l => exact rfl))
  | ((with_reducible refine' x_BmAh ?h ?_); (case h => walk_at "hp"))
  | ((with_reducible refine' x_BmA0h ?h ?_); (case h => walk_at "hp"))
  | ((with_reducible refine' x_inStr ?h ?_); (case h => walk_at "hp"))
  | ((with_reducible refine' x_ninStr ?h ?_); (case h => walk_at "hp"))
  | ((with_reducible refine' x_inInt ?h ?_); (case h => walk_at "hp"))
  | ((with_reducible refine' x_ninInt ?h ?_); (case h => walk_at "hp"))
  | ((with_reducible refine' x_inL ?h ?f ?g ?_); (case h => walk_at "hp"); (case f => exact rfl); (case g => first | exact rfl | assumption))
  | ((with_reducible refine' x_inR ?h ?f ?g ?_); (case h => assumption); (case f => exact rfl); (case g => exact rfl))
  | ((with_reducible refine' x_inT ?h ?f ?g ?_); (case h => walk_at "hp"); (case f => exact rfl); (case g => first | exact rfl | assumption))
  | ((with_reducible refine' x_notInL ?h ?f ?g ?_); (case h => walk_at "hp"); (case f => exact rfl); (case g => first | exact rfl | assumption))
  | ((with_reducible refine' x_setL ?h ?j ?_); (case h => walk_at "hp"); (case j => first | exact rfl | assumption))
  | ((with_reducible refine' x_append ?h ?l ?_); (case h => walk_at "hp"); (case l => walk_at "sz"))
  | ((with_reducible refine' x_neNil ?h ?g ?_); (case h => walk_at "hp"); (case g => walk_at "hp"))
  | ((with_reducible refine' x_eqNil ?h ?g ?_); (case h => walk_at "hp"); (case g => walk_at "hp"))
  | ((with_reducible refine' x_DgA ?h ?v ?_); (case h => walk_at "hp"); (case v => first | exact stK_at _ _ _ | exact bkK_first _ _ | exact bkK_lines _ _ | exact stK_kept _ _ _ | exact stK_left _ _ _ | assumption))
  | ((with_reducible refine' x_FldA ?h ?c ?n ?l ?_); (case h => walk_at "hp"); (case c => assumption); (case n => assumption); (case l => first | exact rfl | assumption))
  | ((with_reducible refine' x_truL ?h ?_); (case h => walk_at "hp"))
  | ((with_reducible refine' x_truT ?h ?_); (case h => walk_at "hp"))
  | ((with_reducible refine' x_kTupL ?h ?_); (case h => walk_at "hp"))
  | ((with_reducible refine' x_kTupT ?h ?_); (case h => walk_at "hp"))
  | ((with_reducible refine' x_idx ?h ?n ?x ?_); (case h => walk_at "hp"); (case n => assumption); (case x => assumption))
  | ((with_reducible refine' x_SFldA ?h ?c ?n ?l ?_); (case h => walk_at "hp"); (case c => assumption); (case n => assumption); (case l => exact Nat.le_of_ble_eq_true rfl))
  | with_reducible refine' x_MkA ?_
  | ((with_reducible refine' x_lsL ?h ?_); (case h => walk_at "hp"))
  | ((with_reducible refine' x_lsT ?h ?_); (case h => walk_at "hp"))
  | with_reducible refine' x_CmA ?_
  | ((with_reducible refine' x_DspS ?h ?_); (case h => walk_at "hp"))
  | ((with_reducible refine' x_AlT ?h ?_); (case h => walk_at "sz"))
  | ((with_reducible refine' x_AlL ?h ?_); (case h => walk_at "sz"))
  | ((with_reducible refine' x_Rg1 ?a ?b ?_); (case a => omega); (case b => omega))
  | ((with_reducible refine' x_Rg2 ?a ?b ?c ?d ?_); (case a => omega); (case b => omega); (case c => omega); (case d => omega))
  | with_reducible refine' x_AlO ?_)
local macro_rules | `(tactic| walk_at "s") => `(tactic| first
  | with_reducible refine' x_seq ?_
  | with_reducible refine' x_asg ?_
  | with_reducible refine' x_gname ?_
  | ((with_reducible refine' x_var ?h ?_); (case h => exact rfl))
  | with_reducible refine' x_c ?_
  | with_reducible refine' x_op ?_
  | with_reducible refine' x_cons ?_
  | with_reducible refine' x_nil ?_
  | with_reducible refine' x_cb ?_
  | with_reducible refine' x_ret ?_
  | with_reducible refine' x_ifS ?_
  | with_reducible refine' x_test ?_
  | with_reducible refine' x_B ?_
  | with_reducible refine' x_bl ?_
  | with_reducible refine' x_if ?_
  | with_reducible refine' x_call ?_
  | with_reducible refine' x_tup ?_
  | with_reducible refine' x_lst ?_
  | with_reducible refine' x_gcons ?_
  | with_reducible refine' x_gnil ?_
  | with_reducible refine' x_gsub ?_
  | with_reducible refine' x_next ?_
  | with_reducible refine' x_drop ?_
  | with_reducible refine' x_and ?_
  | with_reducible refine' x_or ?_
  | with_reducible refine' x_not ?_
  | with_reducible refine' x_andV ?_
  | with_reducible refine' x_orV ?_
  | with_reducible refine' x_un ?_
  | with_reducible refine' x_chain ?_
  | with_reducible refine' x_sfld ?_
  | with_reducible refine' x_par ?_
  | with_reducible refine' x_par2 ?_
  | with_reducible refine' x_par3 ?_
  | with_reducible refine' x_par33 ?_
  | with_reducible refine' x_fld ?_
  | with_reducible refine' x_meth ?_
  | with_reducible refine' x_bm ?_
  | with_reducible refine' x_bm0 ?_
  | with_reducible refine' x_forL ?_
  | with_reducible refine' x_forT ?_
  | with_reducible refine' x_forR1 ?_
  | with_reducible refine' x_forET ?_
  | with_reducible refine' x_thn ?_
  | with_reducible refine' x_cm ?_
  | ((with_reducible refine' x_mkv ?h ?_); (case h => exact rfl))
  | with_reducible refine' x_mk ?_
  | with_reducible refine' x_forEL ?_
  | with_reducible refine' x_forR2 ?_
  | with_reducible refine' x_lcL ?_
  | with_reducible refine' x_lcT ?_
  | with_reducible refine' x_lcR1 ?_
  | with_reducible refine' x_lcR2 ?_
  | with_reducible refine' x_dnew ?_
  | with_reducible refine' x_retN ?_
  | with_reducible refine' x_ff ?_
  | with_reducible refine' x_lrg1 ?_
  | with_reducible refine' x_disp ?_
  | with_reducible refine' x_pnil ?_
  | with_reducible refine' x_pcons ?_
  | with_reducible refine' x_dget ?_
  | with_reducible refine' x_dput ?_
  | with_reducible refine' x_dnewN ?_
  | with_reducible refine' x_nin ?_
  | with_reducible refine' x_nget ?_
  | with_reducible refine' x_nput ?_
  | ((with_reducible refine' x_yes ?e ?_); (case e => first | decide +kernel | exact not_int_non _ | exact not_str_non _))
  | ((with_reducible refine' x_no ?e ?_); (case e => first | decide +kernel | exact int_non _ | exact str_non _ | exact rfl))
  | with_reducible refine' x_lrg2 ?_
  | with_reducible refine' x_tt ?_
  | with_reducible refine' x_break ?_
  | walk_at "i")

def Nscmerged : List Str := ["runs", "found", "count", "cell"]
theorem scmerged : FnScope Nscmerged ["runs"] (defScope (topS 45)) := ⟨rfl, rfl, rfl, by decide +kernel, rfl, by decide +kernel, by decide +kernel⟩
def Nsccheck_cells : List Str := ["cells", "cell"]
theorem sccheck_cells : FnScope Nsccheck_cells ["cells"] (defScope (topS 44)) := ⟨rfl, rfl, rfl, by decide +kernel, rfl, by decide +kernel, by decide +kernel⟩
def BIG : Int := 10 ^ 30 + 1000
theorem ix_last {n : Nat} : ixN (n + 1) (-1) = some n := by
  unfold ixN
  rw [if_neg (by decide), if_pos (by omega)]
  congr 1
  omega
theorem at_last {xs : List V} {x : V} : atI (xs ++ [x]) (-1) = some x := by
  unfold atI
  rw [List.length_append, List.length_singleton, ix_last]
  show (xs ++ [x])[xs.length]? = some x
  rw [List.getElem?_append_right (Nat.le_refl _), Nat.sub_self] <;> rfl
theorem set_last {α : Type} {l : List α} {x y : α} : (l ++ [x]).set l.length y = l ++ [y] := by simp
theorem usN_app (a b : List (Int × Int)) : usN (a ++ b) = usN a ++ usN b := by unfold usN; rw [List.map_append]
theorem last_of {α : Type} (l : List α) : l = [] ∨ ∃ r x, l = r ++ [x] := by
  rcases List.eq_nil_or_concat l with h | ⟨r, x, h⟩
  · exact .inl h
  · exact .inr ⟨r, x, by rw [h] <;> simp⟩
section
variable {P : Program} {w : World} {K : PySem.W.Frag} {mg : Str → Option Value} {base : Heap} {CM CR CP rd et : Addr}
/-- nothing to look at -/
def spChkT : Sp := fun vs H Q _ => ∃ (a : Addr), vs = [.ref a] ∧ H a = some (.tup []) ∧ ∀ H', Same H H' → Q .non H'
theorem ok_chkT {f : Addr} {fd : FuncData} (F : L2.Fun K "check_cells" "check_cells" (topS 44) f fd) (m : mg "check_cells" = some (.ref f)) (b : Binds K fd ["cells"] []) (G : Gm K mg) : C8.Cal P w K mg base 1 "check_cells" spChkT [] := by
  refine calN F m b sccheck_cells (fun vs H Q E h => ?_) (fun cdv A outer s H vs Q E hr h => ?_)
  · obtain ⟨a, rfl, _⟩ := h
    rfl
  obtain ⟨a, rfl, ha, q⟩ := h
  refine ⟨_, (pss_one (ps_for PassesOwn.never rfl (pi_tup (pv 0)) (pg_name (i := 1) sccheck_cells.nd rfl (Or.inl rfl)) (pss_one (ps_if (pt_cmpR op_lt (pv 1) pe_int (nomark _)) (pss_one ps_never) pss_nil)))), ?_⟩
  rw [show L2.start Nsccheck_cells [.ref a] = [some (.ref a), none] from rfl]; try simp only [cxK, cxK2, cxP, cxW, cxPn, cxWn]
  repeat walk_at "s"
  refine x_ForT (SqT.of ha) (fun j σ H' => H' = H) rfl (fun i σ H' _ e => by rw [e]; exact SqT.of ha) (fun i x σ H' hx => nomatch hx) ?_
  rintro σ H' rfl
  exact q H' (Same.refl _)
/-- runs that are fit for the walk -/
def RunsFit (us : List (Int × Int)) : Prop := us.length ≤ 8 ∧ ∀ x ∈ us, 1 ≤ x.1 ∧ x.1 ≤ 8 * BIG ∧ 0 ≤ x.2 ∧ x.2 ≤ 6
def spMerged : Sp := fun vs H Q _ => ∃ (rl : Addr) (rs : List Addr) (us : List (Int × Int)), vs = [.ref rl] ∧ H rl = some (.lst (rs.map V.ref)) ∧ RunsAt No H rs us ∧ RunsOk us ∧
  ∀ (t : Addr) (qs : List Addr) (us' : List (Int × Int)) (H' : Hp), Same H H' → H' t = some (.tup (qs.map V.ref)) → RunsAt No H' qs us' → RunsFit us' → (∀ L1 L2, Alike L1 L2 (usN us') (usN us)) → Q (.ref t) H'
theorem ok_merged {f : Addr} {fd : FuncData} (F : L2.Fun K "merged" "merged" (topS 45) f fd) (m : mg "merged" = some (.ref f)) (b : Binds K fd ["runs"] []) (G : Gm K mg) : C8.Cal P w K mg base 1 "merged" spMerged [] := by
  refine calN F m b scmerged (fun vs H Q E h => ?_) (fun cdv A outer s H vs Q E hr h => ?_)
  · obtain ⟨rl, rs, us, rfl, _⟩ := h
    rfl
  obtain ⟨rl, rs, us, rfl, hrl, hru, hok, q⟩ := h
  refine ⟨_, (pss_cons (ps_set (i := 1) scmerged.nd rfl (Or.inl rfl) (pe_lst pa_nil)) (pss_cons (ps_for PassesOwn.never rfl (pi_list (pv 0)) (pg_tup rfl (pgs_cons (pg_name (i := 2) scmerged.nd rfl (Or.inl rfl)) (pgs_cons (pg_name (i := 3) scmerged.nd rfl (Or.inl rfl)) pgs_nil))) (pss_one (ps_if (PW.pt (pw_and (pt_cmpR op_gt (pv 2) pe_int (nomark _)) (pw_and (pt_truth (pv 1) (by intro _; rfl)) (pw_and1 (pt_cmpR op_eq (pe_ix ix_tup (pe_ix ix_list (pv 1) (pe_un un_neg pe_int) (fun _ _ => rfl)) pe_int (fun _ _ => rfl)) (pv 3) (nomark _)))))) (pss_one (ps_asg (pe_tup (pa_cons (pe_op op_add (pe_ix ix_tup (pe_ix ix_list (pv 1) (pe_un un_neg pe_int) (fun _ _ => rfl)) pe_int (fun _ _ => rfl)) (pv 2)) (pa_cons (pv 3) pa_nil))) (pg_sub (pv 1) (pe_un un_neg pe_int) set_list))) (pss_one (ps_if (pt_cmpR op_gt (pv 2) pe_int (nomark _)) (pss_one (ps_expr (pe_bm PySem.F.plainAttrs_list PySem.F.slot_list_append PySem.F.type_list_append mt_append (pv 1) (pa_cons (pe_tup (pa_cons (pv 2) (pa_cons (pv 3) pa_nil))) pa_nil)))) pss_nil))))) (pss_cons (ps_if (pt_cmpR op_gt (pe_callB k_len (by rfl) G.len PySem.boot_len (pa_cons (pv 1) pa_nil)) (C8.pe_gc rfl G.MOST_RUNS) (nomark _)) (pss_one ps_never) pss_nil) (pss_one (ps_ret (pe_tupleOf rfl G.tuple (pv 1))))))), ?_⟩
  rw [show L2.start Nscmerged [.ref rl] = [some (.ref rl), none, none, none] from rfl]; try simp only [cxK, cxK2, cxP, cxW, cxPn, cxWn]
  obtain ⟨hu8, huv⟩ := hok
  repeat walk_at "s"
  intro p H1 n1
  have hpn : H p = none := n1.fresh
  have hrl1 := n1.up hrl
  repeat walk_at "s"
  refine x_ForL (SqL.of hrl1) (fun j σ H' => ∃ (qs : List Addr) (ws : List (Int × Int)) (x2 x3 : Option V), σ = [some (.ref rl), some (.ref p), x2, x3] ∧ Same H H' ∧ H' p = some (.lst (qs.map V.ref)) ∧ RunsAt No H' qs ws ∧ ws.length ≤ j ∧ (∀ x ∈ ws, 1 ≤ x.1 ∧ x.1 ≤ j * BIG ∧ 0 ≤ x.2 ∧ x.2 ≤ 6) ∧
    ∀ L1 L2, Alike L1 L2 (usN ws) (usN (us.take j))) ?_ ?_ ?_ ?_
  · exact ⟨[], [], none, none, rfl, n1.same, n1.at_, ⟨rfl, fun i r x h => nomatch h⟩, Nat.le_refl _, (fun x h => nomatch h), fun L1 L2 => Alike.refl L1 L2 _⟩
  · rintro i σ H' _ ⟨_, _, _, _, _, s', _⟩
    exact SqL.of (s' _ _ hrl)
  · rintro j x σ H2 hx ⟨qs, ws, x2, x3, rfl, s2, hp2, hqs, hwl, hwv, hal⟩
    obtain ⟨r, hr', rfl⟩ := map_some hx
    obtain ⟨⟨c, cell⟩, hu⟩ := get_some (l := us) (i := j) (by have := get_lt hr'; have := hru.1; omega)
    obtain ⟨u1, u2, c0, c1⟩ := huv _ (List.mem_of_getElem? hu)
    have u1 : 1 ≤ c := u1
    have u2 : c ≤ BIG := u2
    have c0 : 0 ≤ cell := c0
    have c1 : cell ≤ 6 := c1
    have hr2 : H2 r = some (.tup [.int c, .int cell]) := s2 _ _ (hru.2 j r _ hr' hu).h
    have htk : us.take (j + 1) = us.take j ++ [(c, cell)] := by rw [List.take_add_one, hu] <;> rfl
    have hju := get_lt hu
    have hBig : (0 : Int) ≤ BIG := by unfold BIG; decide
    have hmul : ((j + 1 : Nat) : Int) * BIG = (j : Int) * BIG + BIG := by rw [Int.natCast_add, Int.add_mul]; simp
    have hjB : (0 : Int) ≤ (j : Int) * BIG := Int.mul_nonneg (by omega) hBig
    have hqw := hqs.1
    have hq7 : (qs.map V.ref).length < sizeLine := by rw [List.length_map, sizeLine_eq]; omega
    have hnew : ∀ (e : Addr) (H5 : Hp) (H4 : Hp), New H2 H4 e (.tup [.int c, .int cell]) → Chg H4 H5 p (.lst (qs.map V.ref ++ [.ref e])) → ∃ (qs' : List Addr) (ws' : List (Int × Int)) (y2 y3 : Option V), [some (V.ref rl), some (V.ref p), some (V.int c), some (V.int cell)] = [some (.ref rl), some (.ref p), y2, y3] ∧ Same H H5 ∧ H5 p = some (.lst (qs'.map V.ref)) ∧ RunsAt No H5 qs' ws' ∧ ws'.length ≤ j + 1 ∧ (∀ x ∈ ws', 1 ≤ x.1 ∧ x.1 ≤ ((j + 1 : Nat) : Int) * BIG ∧ 0 ≤ x.2 ∧ x.2 ≤ 6) ∧
        ∀ L1 L2, Alike L1 L2 (usN ws') (usN (us.take (j + 1))) := fun e H5 H4 n4 c5 => by
      have hp4 := n4.up hp2
      refine ⟨qs ++ [e], ws ++ [(c, cell)], _, _, rfl, Same.chg (s2.trans n4.same) hpn c5, by rw [List.map_append]; exact c5.at_, ((hqs.up n4.kp).snoc (At.no n4.at_)).chgT hp4 c5, by rw [List.length_append, List.length_singleton]; omega, fun x hx => ?_, fun L1 L2 => ?_⟩
      · rcases List.mem_append.mp hx with hx | hx
        · obtain ⟨a1, a2, a3, a4⟩ := hwv x hx
          exact ⟨a1, by omega, a3, a4⟩
        · rw [List.mem_singleton.mp hx]
          exact ⟨u1, by show c ≤ _; omega, c0, c1⟩
      · rw [htk, usN_app, usN_app]
        exact (hal L1 L2).app _
    repeat walk_at "s"
    refine x_yes (decide_eq_true (by omega)) ?_
    repeat walk_at "s"
    rcases last_of ws with rfl | ⟨wl, ⟨a, b⟩, rfl⟩
    · have hq0 : qs = [] := List.length_eq_zero_iff.mp hqw
      subst hq0
      have hp2' : H2 p = some (.lst []) := hp2
      repeat walk_at "s"
      refine x_yes (decide_eq_true (by omega)) ?_
      repeat walk_at "s"
      intro e H4 n4
      have hp4 := n4.up hp2'
      repeat walk_at "s"
      intro H5 c5
      repeat walk_at "s"
      exact hnew e H5 H4 n4 c5
    · rcases last_of qs with rfl | ⟨ql, q0, rfl⟩
      · rw [List.length_append, List.length_singleton] at hqw
        exact nomatch hqw
      have hwq : wl.length = ql.length := by rw [List.length_append, List.length_append, List.length_singleton, List.length_singleton] at hqw; omega
      have hp2' : H2 p = some (.lst (ql.map V.ref ++ [V.ref q0])) := by rw [hp2, List.map_append] <;> rfl
      have hq0 : H2 q0 = some (.tup [.int a, .int b]) := (hqs.2 wl.length q0 (a, b) (by rw [hwq, List.getElem?_append_right (Nat.le_refl _), Nat.sub_self]; rfl) (by rw [List.getElem?_append_right (Nat.le_refl _), Nat.sub_self]; rfl)).h
      have hv : atI (ql.map V.ref ++ [V.ref q0]) (-1) = some (.ref q0) := at_last
      have hlenq : (ql.map V.ref ++ [V.ref q0]).length = ql.length + 1 := by rw [List.length_append, List.length_map] <;> rfl
      have hj : ixN (ql.map V.ref ++ [V.ref q0]).length (-1) = some ql.length := by rw [hlenq]; exact ix_last
      have hq8 : (ql.map V.ref ++ [V.ref q0]).length < sizeLine := by rw [hlenq, sizeLine_eq]; rw [List.length_append, List.length_singleton] at hwl; omega
      rw [List.map_append] at hnew
      repeat walk_at "s"
      refine x_yes (by simp) ?_
      repeat walk_at "s"
      refine x_ite (fun he => ?_) (fun he => ?_)
      · subst he
        repeat walk_at "s"
        intro e H4 n4
        have hp4 := n4.up hp2'
        repeat walk_at "s"
        intro H5 c5
        have hset : (ql.map V.ref ++ [V.ref q0]).set ql.length (.ref e) = (ql ++ [e]).map V.ref := by
          have := set_last (l := ql.map V.ref) (x := V.ref q0) (y := V.ref e)
          rw [List.length_map] at this
          rw [this, List.map_append] <;> rfl
        rw [hset] at c5
        obtain ⟨a1, a2, a3, a4⟩ := hwv (a, b) (List.mem_append.mpr (.inr (List.mem_singleton.mpr rfl)))
        have a1 : 1 ≤ a := a1
        have a2 : a ≤ (j : Int) * BIG := a2
        repeat walk_at "s"
        have hqs' : RunsAt No H2 ql wl := ⟨hwq.symm, fun i r x hr hx => hqs.2 i r x (by rw [List.getElem?_append_left (get_lt hr)]; exact hr) (by rw [List.getElem?_append_left (get_lt hx)]; exact hx)⟩
        refine ⟨ql ++ [e], wl ++ [(a + c, b)], _, _, rfl, Same.chg (s2.trans n4.same) hpn c5, c5.at_, ((hqs'.up n4.kp).snoc (At.no n4.at_)).chgT hp4 c5, by rw [List.length_append, List.length_singleton] at hwl ⊢; omega, fun x hx => ?_, fun L1 L2 => ?_⟩
        · rcases List.mem_append.mp hx with hx | hx
          · obtain ⟨b1, b2, b3, b4⟩ := hwv x (List.mem_append.mpr (.inl hx))
            exact ⟨b1, by omega, b3, b4⟩
          · rw [List.mem_singleton.mp hx]
            exact ⟨by show 1 ≤ a + c; omega, by show a + c ≤ _; omega, a3, a4⟩
        · rw [htk, usN_app, usN_app]
          have h1 := (hal L1 L2).app (usN [(c, b)])
          have h2 := Alike.join (L1 := L1) (L2 := L2) (usN wl) a.toNat c.toNat b
          have e1 : usN [(a + c, b)] = [(a.toNat + c.toNat, b)] := by
            show [((a + c).toNat, b)] = _
            rw [Int.toNat_add (by omega) (by omega)]
          rw [e1]
          refine h2.trans ?_
          rw [usN_app] at h1
          exact h1
      · repeat walk_at "s"
        refine x_yes (decide_eq_true (by omega)) ?_
        repeat walk_at "s"
        intro e H4 n4
        have hp4 := n4.up hp2'
        repeat walk_at "s"
        intro H5 c5
        repeat walk_at "s"
        exact hnew e H5 H4 n4 c5
  · rintro σ H2 ⟨qs, ws, x2, x3, rfl, s2, hp2, hqs, hwl, hwv, hal⟩
    have hlr : (rs.map V.ref).length = us.length := by rw [List.length_map, hru.1]
    rw [hlr] at hwl hwv hal
    rw [List.take_length] at hal
    have hq1000 : ¬ ((1000 : Int) < ((qs.map V.ref).length : Int)) := by rw [List.length_map, hqs.1]; omega
    repeat walk_at "s"
    refine x_no (decide_eq_false hq1000) ?_
    repeat walk_at "s"
    intro t H3 n3
    have hBig : (0 : Int) ≤ BIG := by unfold BIG; decide
    refine q t qs ws H3 (s2.trans n3.same) n3.at_ (hqs.up n3.kp) ⟨by omega, fun x hx => ?_⟩ hal
    obtain ⟨a1, a2, a3, a4⟩ := hwv x hx
    have : (us.length : Int) * BIG ≤ 8 * BIG := Int.mul_le_mul_of_nonneg_right (by omega) hBig
    exact ⟨a1, by omega, a3, a4⟩
end
end
end K21
end

section
set_option maxRecDepth 100000
set_option maxHeartbeats 4000000
namespace K21
open PySem PySem.Spec PyProof.Rows L2
noncomputable section
local macro_rules | `(tactic| walk_at "hp") => `(tactic| first
  | assumption
  | ((with_reducible refine' At.h ?q); (case q => assumption))
  | ((with_reducible refine' New.at_ ?q); (case q => assumption))
  | ((with_reducible refine' Chg.at_ ?q); (case q => assumption))
  | ((with_reducible refine' New.up ?n ?q); (case n => assumption); (case q => walk_at "hp"))
  | ((with_reducible refine' Same.up ?n ?q); (case n => assumption); (case q => walk_at "hp")))
local macro_rules | `(tactic| walk_at "sz") => `(tactic| first | exact Nat.le_of_ble_eq_true rfl | assumption | omega)
local macro_rules | `(tactic| walk_at "i") => `(tactic| first
  | with_reducible refine' x_I0 ?_
  | ((with_reducible refine' x_I ?c ?_); (case c => first | assumption | (show (_ : Int) ≠ 0; omega) | exact .inr ⟨by decide, by decide⟩ | exact .inl ⟨by decide, by decide⟩ | (refine ⟨?_, ?_⟩ <;> first | decide | omega)))
  | with_reducible refine' x_eqI ?_
  | with_reducible refine' x_neI ?_
  | with_reducible refine' x_eqS ?_
  | with_reducible refine' x_neS ?_
  | with_reducible refine' x_isN ?_
  | with_reducible refine' x_notN ?_
  | with_reducible refine' x_U ?_
  | with_reducible refine' x_int ?_
  | with_reducible refine' x_intB ?_
  | with_reducible refine' x_min2 ?_
  | with_reducible refine' x_max2 ?_
  | ((with_reducible refine' x_ixLh ?h ?v ?_); (case h => walk_at "hp"); (case v => first | exact rfl | assumption))
  | ((with_reducible refine' x_ixTh ?h ?v ?_); (case h => walk_at "hp"); (case v => first | exact rfl | assumption))
  | ((with_reducible refine' x_lenL ?h ?_); (case h => walk_at "hp"))
  | ((with_reducible refine' x_lenT ?h ?_); (case h => walk_at "hp"))
  | ((with_reducible refine' x_gtuph ?h ?l ?_); (case h => walk_at "hp"); (case l => exact rfl))
  | ((with_reducible refine' x_BmAh ?h ?_); (case h => walk_at "hp"))
  | ((with_reducible refine' x_BmA0h ?h ?_); (case h => walk_at "hp"))
  | ((with_reducible refine' x_inStr ?h ?_); (case h => walk_at "hp"))
  | ((with_reducible refine' x_ninStr ?h ?_); (case h => walk_at "hp"))
  | ((with_reducible refine' x_inInt ?h ?_); (case h => walk_at "hp"))
  | ((with_reducible refine' x_ninInt ?h ?_); (case h => walk_at "hp"))
  | ((with_reducible refine' x_inL ?h ?f ?g ?_); (case h => walk_at "hp"); (case f => exact rfl); (case g => first | exact rfl | assumption))
  | ((with_reducible refine' x_inR ?h ?f ?g ?_); (case h => assumption); (case f => exact rfl); (case g => exact rfl))
  | ((with_reducible refine' x_inT ?h ?f ?g ?_); (case h => walk_at "hp"); (case f => exact rfl); (case g => first | exact rfl | assumption))
  | ((with_reducible refine' x_notInL ?h ?f ?g ?_); (case h => walk_at "hp"); (case f => exact rfl); (case g => first | exact rfl | assumption))
  | ((with_reducible refine' x_setL ?h ?j ?_); (case h => walk_at "hp"); (case j => first | exact rfl | assumption))
  | ((with_reducible refine' x_append ?h ?l ?_); (case h => walk_at "hp"); (case l => walk_at "sz"))
  | ((with_reducible refine' x_neNil ?h ?g ?_); (case h => walk_at "hp"); (case g => walk_at "hp"))
  | ((with_reducible refine' x_eqNil ?h ?g ?_); (case h => walk_at "hp"); (case g => walk_at "hp"))
  | ((with_reducible refine' x_DgA ?h ?v ?_); (case h => walk_at "hp"); (case v => first | exact stK_at _ _ _ | exact bkK_first _ _ | exact bkK_lines _ _ | exact stK_kept _ _ _ | exact stK_left _ _ _ | assumption))
  | ((with_reducible refine' x_FldA ?h ?c ?n ?l ?_); (case h => walk_at "hp"); (case c => assumption); (case n => assumption); (case l => first | exact rfl | assumption))
  | ((with_reducible refine' x_truL ?h ?_); (case h => walk_at "hp"))
  | ((with_reducible refine' x_truT ?h ?_); (case h => walk_at "hp"))
  | ((with_reducible refine' x_kTupL ?h ?_); (case h => walk_at "hp"))
  | ((with_reducible refine' x_kTupT ?h ?_); (case h => walk_at "hp"))
  | ((with_reducible refine' x_idx ?h ?n ?x ?_); (case h => walk_at "hp"); (case n => assumption); (case x => assumption))
  | ((with_reducible refine' x_SFldA ?h ?c ?n ?l ?_); (case h => walk_at "hp"); (case c => assumption); (case n => assumption); (case l => exact Nat.le_of_ble_eq_true rfl))
  | with_reducible refine' x_MkA ?_
  | ((with_reducible refine' x_lsL ?h ?_); (case h => walk_at "hp"))
  | ((with_reducible refine' x_lsT ?h ?_); (case h => walk_at "hp"))
  | with_reducible refine' x_CmA ?_
  | ((with_reducible refine' x_DspS ?h ?_); (case h => walk_at "hp"))
  | ((with_reducible refine' x_AlT ?h ?_); (case h => walk_at "sz"))
  | ((with_reducible refine' x_AlL ?h ?_); (case h => walk_at "sz"))
  | ((with_reducible refine' x_Rg1 ?a ?b ?_); (case a => omega); (case b => omega))
  | ((with_reducible refine' x_Rg2 ?a ?b ?c ?d ?_); (case a => omega); (case b => omega); (case c => omega); (case d => omega))
  | with_reducible refine' x_AlO ?_)
local macro_rules | `(tactic| walk_at "s") => `(tactic| first
  | with_reducible refine' x_seq ?_
  | with_reducible refine' x_asg ?_
  | with_reducible refine' x_gname ?_
  | ((with_reducible refine' x_var ?h ?_); (case h => exact rfl))
  | with_reducible refine' x_c ?_
  | with_reducible refine' x_op ?_
  | with_reducible refine' x_cons ?_
  | with_reducible refine' x_nil ?_
  | with_reducible refine' x_cb ?_
  | with_reducible refine' x_ret ?_
  | with_reducible refine' x_ifS ?_
  | with_reducible refine' x_test ?_
  | with_reducible refine' x_B ?_
  | with_reducible refine' x_bl ?_
  | with_reducible refine' x_if ?_
  | with_reducible refine' x_call ?_
  | with_reducible refine' x_tup ?_
  | with_reducible refine' x_lst ?_
  | with_reducible refine' x_gcons ?_
  | with_reducible refine' x_gnil ?_
  | with_reducible refine' x_gsub ?_
  | with_reducible refine' x_next ?_
  | with_reducible refine' x_drop ?_
  | with_reducible refine' x_and ?_
  | with_reducible refine' x_or ?_
  | with_reducible refine' x_not ?_
  | with_reducible refine' x_andV ?_
  | with_reducible refine' x_orV ?_
  | with_reducible refine' x_un ?_
  | with_reducible refine' x_chain ?_
  | with_reducible refine' x_sfld ?_
  | with_reducible refine' x_par ?_
  | with_reducible refine' x_par2 ?_
  | with_reducible refine' x_par3 ?_
  | with_reducible refine' x_par33 ?_
  | with_reducible refine' x_fld ?_
  | with_reducible refine' x_meth ?_
  | with_reducible refine' x_bm ?_
  | with_reducible refine' x_bm0 ?_
  | with_reducible refine' x_forL ?_
  | with_reducible refine' x_forT ?_
  | with_reducible refine' x_forR1 ?_
  | with_reducible refine' x_forET ?_
  | with_reducible refine' x_thn ?_
  | with_reducible refine' x_cm ?_
  | ((with_reducible refine' x_mkv ?h ?_); (case h => exact rfl))
  | with_reducible refine' x_mk ?_
  | with_reducible refine' x_forEL ?_
  | with_reducible refine' x_forR2 ?_
  | with_reducible refine' x_lcL ?_
  | with_reducible refine' x_lcT ?_
  | with_reducible refine' x_lcR1 ?_
  | with_reducible refine' x_lcR2 ?_
  | with_reducible refine' x_dnew ?_
  | with_reducible refine' x_retN ?_
  | with_reducible refine' x_ff ?_
  | with_reducible refine' x_lrg1 ?_
  | with_reducible refine' x_disp ?_
  | with_reducible refine' x_pnil ?_
  | with_reducible refine' x_pcons ?_
  | with_reducible refine' x_dget ?_
  | with_reducible refine' x_dput ?_
  | with_reducible refine' x_dnewN ?_
  | with_reducible refine' x_nin ?_
  | with_reducible refine' x_nget ?_
  | with_reducible refine' x_nput ?_
  | ((with_reducible refine' x_yes ?e ?_); (case e => first | decide +kernel | exact not_int_non _ | exact not_str_non _))
  | ((with_reducible refine' x_no ?e ?_); (case e => first | decide +kernel | exact int_non _ | exact str_non _ | exact rfl))
  | with_reducible refine' x_lrg2 ?_
  | with_reducible refine' x_tt ?_
  | with_reducible refine' x_break ?_
  | walk_at "i")

def NscRow___init__ : List Str := ["self", "cells", "runs", "cell"]
theorem scRow___init__ : FnScope NscRow___init__ ["self", "cells", "runs"] (defScope (inC 46 0)) := ⟨rfl, rfl, rfl, by decide +kernel, rfl, by decide +kernel, by decide +kernel⟩
def NscRow_of_runs : List Str := ["cls", "runs", "count", "cell"]
theorem scRow_of_runs : FnScope NscRow_of_runs ["cls", "runs"] (defScope (inC 46 1)) := ⟨rfl, rfl, rfl, by decide +kernel, rfl, by decide +kernel, by decide +kernel⟩
def Nscto_row : List Str := ["row"]
theorem scto_row : FnScope Nscto_row ["row"] (defScope (topS 47)) := ⟨rfl, rfl, rfl, by decide +kernel, rfl, by decide +kernel, by decide +kernel⟩
def Nscfirst_unlike : List Str := ["one", "other", "row", "pair", "place", "count", "cell", "found"]
theorem scfirst_unlike : FnScope Nscfirst_unlike ["one", "other", "row"] (defScope (topS 50)) := ⟨rfl, rfl, rfl, by decide +kernel, rfl, by decide +kernel, by decide +kernel⟩
def Nscparting_place : List Str := ["one", "other", "row", "found"]
theorem scparting_place : FnScope Nscparting_place ["one", "other", "row"] (defScope (topS 51)) := ⟨rfl, rfl, rfl, by decide +kernel, rfl, by decide +kernel, by decide +kernel⟩
structure RowOk (K : PySem.W.Frag) (CW : Addr) : Prop where
  cls : Cls K CW
  run : NoAttr K CW "runs"
/-- a row -/
def RowAt (H : Hp) (CW rw : Addr) (us : List (Int × Int)) : Prop := ∃ (dx t : Addr) (qs : List Addr), H rw = some (.ins CW dx [("runs", .ref t)]) ∧ H t = some (.tup (qs.map V.ref)) ∧ RunsAt No H qs us
theorem RowAt.up {H H' : Hp} {CW rw : Addr} {us : List (Int × Int)} (h : RowAt H CW rw us) (k : Same H H') : RowAt H' CW rw us := by
  obtain ⟨dx, t, qs, h1, h2, h3⟩ := h
  exact ⟨dx, t, qs, k _ _ h1, k _ _ h2, h3.up (Kp.same k)⟩
section
variable {P : Program} {w : World} {K : PySem.W.Frag} {mg : Str → Option Value} {base : Heap} {CM CR CP CW rd et : Addr}
def spChkL : Sp := fun vs H Q _ => ∃ (a : Addr) (c : Int), vs = [.ref a] ∧ H a = some (.lst [.int c]) ∧ 0 ≤ c ∧ ∀ H', Same H H' → Q .non H'
theorem ok_chkL {f : Addr} {fd : FuncData} (F : L2.Fun K "check_cells" "check_cells" (topS 44) f fd) (m : mg "check_cells" = some (.ref f)) (b : Binds K fd ["cells"] []) (G : Gm K mg) : C8.Cal P w K mg base 1 "check_cells" spChkL [] := by
  refine calN F m b sccheck_cells (fun vs H Q E h => ?_) (fun cdv A outer s H vs Q E hr h => ?_)
  · obtain ⟨a, c, rfl, _⟩ := h
    rfl
  obtain ⟨a, c, rfl, ha, h0, q⟩ := h
  refine ⟨_, (pss_one (ps_for PassesOwn.never rfl (pi_list (pv 0)) (pg_name (i := 1) sccheck_cells.nd rfl (Or.inl rfl)) (pss_one (ps_if (pt_cmpR op_lt (pv 1) pe_int (nomark _)) (pss_one ps_never) pss_nil)))), ?_⟩
  rw [show L2.start Nsccheck_cells [.ref a] = [some (.ref a), none] from rfl]; try simp only [cxK, cxK2, cxP, cxW, cxPn, cxWn]
  repeat walk_at "s"
  refine x_ForL (SqL.of ha) (fun j σ H' => H' = H ∧ ∃ x : Option V, σ = [some (.ref a), x]) ⟨rfl, none, rfl⟩ (fun i σ H' _ e => by rw [e.1]; exact SqL.of ha) ?_ ?_
  · rintro i x σ H' hx ⟨rfl, x1, rfl⟩
    have hx0 : x = .int c := by
      rcases i with _ | i
      · cases hx; rfl
      · exact nomatch hx
    subst hx0
    repeat walk_at "s"
    refine x_no (decide_eq_false (by omega)) ?_
    repeat walk_at "s"
    exact ⟨rfl, _, rfl⟩
  · rintro σ H' ⟨rfl, x1, rfl⟩
    repeat walk_at "s"
    exact q H' (Same.refl _)
def spRinit (CW : Addr) : Sp := fun vs H Q _ => ∃ (x dx ca rl : Addr) (rs : List Addr) (us : List (Int × Int)), vs = [.ref x, .ref ca, .ref rl] ∧ H x = some (.ins CW dx []) ∧ H ca = some (.tup []) ∧ H rl = some (.lst (rs.map V.ref)) ∧ RunsAt No H rs us ∧ RunsOk us ∧
  ∀ (us' : List (Int × Int)) H', (∀ b o, b ≠ x → H b = some o → H' b = some o) → RowAt H' CW x us' → RunsFit us' → (∀ L1 L2, Alike L1 L2 (usN us') (usN us)) → Q .non H'
theorem ok_rinit {f : Addr} {fd : FuncData} {dvs : List V} (F : FunD K "__init__" "Row.__init__" (defArgs (inC 46 0)) (defBody (inC 46 0)) (defScope (inC 46 0)) dvs [] f fd) (G : Gm K mg) (CWok : RowOk K CW) (c_check_cells : C8.Cal P w K mg base 1 "check_cells" spChkT [])
    (c_merged : C8.Cal P w K mg base 1 "merged" spMerged []) : FnOk P w K mg base C8.CX0 2 f fd ["self", "cells", "runs"] (spRinit CW) := by
  refine fnD F scRow___init__ (fun vs H Q E h => ?_) (fun cdv A outer s H vs Q E hr h => ?_)
  · obtain ⟨x, dx, ca, rl, rs, us, rfl, _⟩ := h
    rfl
  obtain ⟨x, dx, ca, rl, rs, us, rfl, hx, hca, hrl, hru, hok, q⟩ := h
  refine ⟨_, (pss_cons (ps_expr (C8.pe_c c_check_cells hr (by decide) rfl (pa_cons (pv 1) pa_nil))) (pss_one (ps_fld (pv 0) (C8.pe_c c_merged hr (by decide) rfl (pa_cons (pe_op k_cat (pe_lc (own := [("cell", 3)]) rfl scRow___init__.nd (pi_tup (pv 1)) (blkOk_by (own := [("cell", 3)]) (N := NscRow___init__) (sc := defScope (inC 46 0)) (by decide +kernel)) (fun _ _ _ _ _ => (pg_name (i := 3) scRow___init__.nd rfl (Or.inl rfl))) (fun _ _ _ _ _ => pts_nil) (fun _ _ _ _ _ => (pe_tup (pa_cons pe_int (pa_cons (pv 3) pa_nil))))) (pe_callTy k_list (by rfl) G.list (by decide +kernel) (pa_cons (pv 2) pa_nil))) pa_nil)) rfl))), ?_⟩
  rw [show L2.start NscRow___init__ [.ref x, .ref ca, .ref rl] = [some (.ref x), some (.ref ca), some (.ref rl), none] from rfl]; try simp only [cxK, cxK2, cxP, cxW, cxPn, cxWn]
  obtain ⟨cw1, cw2⟩ := CWok
  repeat walk_at "s"
  refine ⟨ca, rfl, hca, fun H1 s1 => ?_⟩
  have hca1 := s1 _ _ hca
  repeat walk_at "s"
  refine x_LcTF hca1 (by decide) (fun _ => true) (fun _ => .non) (fun i x H hx => nomatch hx) fun D H2 n2 => ?_
  have hrl2 := n2.up (s1 _ _ hrl)
  have hD2 : H2 D = some (.lst []) := n2.at_
  repeat walk_at "s"
  intro l2 H3 n3
  refine x_cat (n3.up hD2) n3.at_ (by rw [sizeLine_eq, List.length_map, hru.1]; have := hok.1; show 0 + _ ≤ _; omega) fun l3 H4 n4 => ?_
  have s04 : Same H H4 := (s1.trans n2.same).trans (n3.same.trans n4.same)
  have hl3 : H4 l3 = some (.lst (rs.map V.ref)) := n4.at_
  repeat walk_at "s"
  refine ⟨l3, rs, us, rfl, hl3, hru.up (Kp.same s04), hok, fun t qs us' H5 s5 h1 h2 h3 h4 => ?_⟩
  have hx5 := s5 _ _ (s04 _ _ hx)
  repeat walk_at "s"
  intro H6 c6
  repeat walk_at "s"
  have ne : ∀ {z : Addr} {ys : List V}, H5 z = some (.tup ys) → H6 z = some (.tup ys) := fun h => c6.up (ne_of h hx5 (fun z => nomatch z)) h
  exact q us' H6 (fun b o hb e => c6.up hb (s5 _ _ (s04 _ _ e))) ⟨dx, t, qs, c6.at_, ne h1, h2.1, fun i r y a b => At.no (ne (h2.2 i r y a b).h)⟩ h3 h4
/-- a row of runs -/
def spOf (CW : Addr) : Sp := fun vs H Q _ => ∃ (rl : Addr) (rs : List Addr) (us : List (Int × Int)), vs = [.ref CW, .ref rl] ∧ H rl = some (.lst (rs.map V.ref)) ∧ RunsAt No H rs us ∧ RunsOk us ∧
  ∀ (rw : Addr) (us' : List (Int × Int)) H', Same H H' → RowAt H' CW rw us' → RunsFit us' → (∀ L1 L2, Alike L1 L2 (usN us') (usN us)) → Q (.ref rw) H'
theorem ok_of {f : Addr} {fd : FuncData} (F : L2.Fun K "of_runs" "Row.of_runs" (inC 46 1) f fd) (G : Gm K mg) (c_check_cells : C8.Cal P w K mg base 1 "check_cells" spChkL []) (m_Row : C8.Mak P w K mg base 2 "Row" CW (spRinit CW) []) : FnOk P w K mg base C8.CX0 4 f fd ["cls", "runs"] (spOf CW) := by
  refine fnN F scRow_of_runs (fun vs H Q E h => ?_) (fun cdv A outer s H vs Q E hr h => ?_)
  · obtain ⟨rl, rs, us, rfl, _⟩ := h
    rfl
  obtain ⟨rl, rs, us, rfl, hrl, hru, hok, q⟩ := h
  refine ⟨_, (pss_cons (ps_for PassesOwn.never rfl (pi_list (pv 1)) (pg_tup rfl (pgs_cons (pg_name (i := 2) scRow_of_runs.nd rfl (Or.inl rfl)) (pgs_cons (pg_name (i := 3) scRow_of_runs.nd rfl (Or.inl rfl)) pgs_nil))) (pss_cons (ps_if (pt_cmpR op_lt (pv 2) pe_int (nomark _)) (pss_one ps_never) pss_nil) (pss_one (ps_expr (C8.pe_c c_check_cells hr (by decide) rfl (pa_cons (pe_lst (pa_cons (pv 3) pa_nil)) pa_nil)))))) (pss_one (ps_ret (pe_mkv (i := 0) m_Row hr (by decide) (pa_cons (pe_tup pa_nil) (pa_cons (pv 1) pa_nil)))))), ?_⟩
  rw [show L2.start NscRow_of_runs [.ref CW, .ref rl] = [some (.ref CW), some (.ref rl), none, none] from rfl]; try simp only [cxK, cxK2, cxP, cxW, cxPn, cxWn]
  repeat walk_at "s"
  refine x_ForL (SqL.of hrl) (fun j σ H' => Same H H' ∧ ∃ x2 x3 : Option V, σ = [some (.ref CW), some (.ref rl), x2, x3]) ⟨Same.refl _, none, none, rfl⟩ (fun i σ H' _ e => SqL.of (e.1 _ _ hrl)) ?_ ?_
  · rintro j x σ H2 hx ⟨s2, x2, x3, rfl⟩
    obtain ⟨r, hr', rfl⟩ := map_some hx
    obtain ⟨⟨c, cell⟩, hu⟩ := get_some (l := us) (i := j) (by have := get_lt hr'; have := hru.1; omega)
    obtain ⟨u1, u2, c0, c1⟩ := hok.2 _ (List.mem_of_getElem? hu)
    have u1 : 1 ≤ c := u1
    have c0 : 0 ≤ cell := c0
    have hr2 : H2 r = some (.tup [.int c, .int cell]) := s2 _ _ (hru.2 j r _ hr' hu).h
    repeat walk_at "s"
    refine x_no (decide_eq_false (by omega)) ?_
    repeat walk_at "s"
    intro l H3 n3
    repeat walk_at "s"
    refine ⟨l, cell, rfl, n3.at_, c0, fun H4 s4 => ?_⟩
    repeat walk_at "s"
    exact ⟨(s2.trans n3.same).trans s4, _, _, rfl⟩
  · rintro σ H2 ⟨s2, x2, x3, rfl⟩
    repeat walk_at "s"
    intro ca H3 n3
    have hrl3 := n3.up (s2 _ _ hrl)
    repeat walk_at "s"
    intro x dx H4 hx s4 hx4
    repeat walk_at "s"
    have s24 := (s2.trans n3.same).trans s4
    refine ⟨x, dx, ca, rl, rs, us, rfl, hx4, s4 _ _ n3.at_, s4 _ _ hrl3, hru.up (Kp.same s24), hok, fun us' H5 k5 h1 h2 h3 => ⟨rfl, ?_⟩⟩
    exact q x us' H5 (fun b o e => k5 b o (ne_of_none ((s2.trans n3.same) _ _ e) hx) (s24 _ _ e)) h1 h2 h3
end
end
end K21
end

section
set_option maxRecDepth 100000
set_option maxHeartbeats 4000000
namespace K21
open PySem PySem.Spec PyProof.Rows L2
noncomputable section
local macro_rules | `(tactic| walk_at "hp") => `(tactic| first
  | assumption
  | ((with_reducible refine' At.h ?q); (case q => assumption))
  | ((with_reducible refine' New.at_ ?q); (case q => assumption))
  | ((with_reducible refine' Chg.at_ ?q); (case q => assumption))
  | ((with_reducible refine' New.up ?n ?q); (case n => assumption); (case q => walk_at "hp"))
  | ((with_reducible refine' Same.up ?n ?q); (case n => assumption); (case q => walk_at "hp")))
local macro_rules | `(tactic| walk_at "sz") => `(tactic| first | exact Nat.le_of_ble_eq_true rfl | assumption | omega)
local macro_rules | `(tactic| walk_at "i") => `(tactic| first
  | with_reducible refine' x_I0 ?_
  | ((with_reducible refine' x_I ?c ?_); (case c => first | assumption | (show (_ : Int) ≠ 0; omega) | exact .inr ⟨by decide, by decide⟩ | exact .inl ⟨by decide, by decide⟩ | (refine ⟨?_, ?_⟩ <;> first | decide | omega)))
  | with_reducible refine' x_eqI ?_
  | with_reducible refine' x_neI ?_
  | with_reducible refine' x_eqS ?_
  | with_reducible refine' x_neS ?_
  | with_reducible refine' x_isN ?_
  | with_reducible refine' x_notN ?_
  | with_reducible refine' x_U ?_
  | with_reducible refine' x_int ?_
  | with_reducible refine' x_intB ?_
  | with_reducible refine' x_min2 ?_
  | with_reducible refine' x_max2 ?_
  | ((with_reducible refine' x_ixLh ?h ?v ?_); (case h => walk_at "hp"); (case v => first | exact rfl | assumption))
  | ((with_reducible refine' x_ixTh ?h ?v ?_); (case h => walk_at "hp"); (case v => first | exact rfl | assumption))
  | ((with_reducible refine' x_lenL ?h ?_); (case h => walk_at "hp"))
  | ((with_reducible refine' x_lenT ?h ?_); (case h => walk_at "hp"))
  | ((with_reducible refine' x_gtuph ?h ?l ?_); (case h => walk_at "hp"); (case l => exact rfl))
  | ((with_reducible refine' x_BmAh ?h ?_); (case h => walk_at "hp"))
  | ((with_reducible refine' x_BmA0h ?h ?_); (case h => walk_at "hp"))
  | ((with_reducible refine' x_inStr ?h ?_); (case h => walk_at "hp"))
  | ((with_reducible refine' x_ninStr ?h ?_); (case h => walk_at "hp"))
  | ((with_reducible refine' x_inInt ?h ?_); (case h => walk_at "hp"))
  | ((with_reducible refine' x_ninInt ?h ?_); (case h => walk_at "hp"))
  | ((with_reducible refine' x_inL ?h ?f ?g ?_); (case h => walk_at "hp"); (case f => exact rfl); (case g => first | exact rfl | assumption))
  | ((with_reducible refine' x_inR ?h ?f ?g ?_); (case h => assumption); (case f => exact rfl); (case g => exact rfl))
  | ((with_reducible refine' x_inT ?h ?f ?g ?_); (case h => walk_at "hp"); (case f => exact rfl); (case g => first | exact rfl | assumption))
  | ((with_reducible refine' x_notInL ?h ?f ?g ?_); (case h => walk_at "hp"); (case f => exact rfl); (case g => first | exact rfl | assumption))
  | ((with_reducible refine' x_setL ?h ?j ?_); (case h => walk_at "hp"); (case j => first | exact rfl | assumption))
  | ((with_reducible refine' x_append ?h ?l ?_); (case h => walk_at "hp"); (case l => walk_at "sz"))
  | ((with_reducible refine' x_neNil ?h ?g ?_); (case h => walk_at "hp"); (case g => walk_at "hp"))
  | ((with_reducible refine' x_eqNil ?h ?g ?_); (case h => walk_at "hp"); (case g => walk_at "hp"))
  | ((with_reducible refine' x_DgA ?h ?v ?_); (case h => walk_at "hp"); (case v => first | exact stK_at _ _ _ | exact bkK_first _ _ | exact bkK_lines _ _ | exact stK_kept _ _ _ | exact stK_left _ _ _ | assumption))
  | ((with_reducible refine' x_FldA ?h ?c ?n ?l ?_); (case h => walk_at "hp"); (case c => assumption); (case n => assumption); (case l => first | exact rfl | assumption))
  | ((with_reducible refine' x_truL ?h ?_); (case h => walk_at "hp"))
  | ((with_reducible refine' x_truT ?h ?_); (case h => walk_at "hp"))
  | ((with_reducible refine' x_kTupL ?h ?_); (case h => walk_at "hp"))
  | ((with_reducible refine' x_kTupT ?h ?_); (case h => walk_at "hp"))
  | ((with_reducible refine' x_idx ?h ?n ?x ?_); (case h => walk_at "hp"); (case n => assumption); (case x => assumption))
  | ((with_reducible refine' x_SFldA ?h ?c ?n ?l ?_); (case h => walk_at "hp"); (case c => assumption); (case n => assumption); (case l => exact Nat.le_of_ble_eq_true rfl))
  | with_reducible refine' x_MkA ?_
  | ((with_reducible refine' x_lsL ?h ?_); (case h => walk_at "hp"))
  | ((with_reducible refine' x_lsT ?h ?_); (case h => walk_at "hp"))
  | with_reducible refine' x_CmA ?_
  | ((with_reducible refine' x_DspS ?h ?_); (case h => walk_at "hp"))
  | ((with_reducible refine' x_AlT ?h ?_); (case h => walk_at "sz"))
  | ((with_reducible refine' x_AlL ?h ?_); (case h => walk_at "sz"))
  | ((with_reducible refine' x_Rg1 ?a ?b ?_); (case a => omega); (case b => omega))
  | ((with_reducible refine' x_Rg2 ?a ?b ?c ?d ?_); (case a => omega); (case b => omega); (case c => omega); (case d => omega))
  | with_reducible refine' x_AlO ?_)
local macro_rules | `(tactic| walk_at "s") => `(tactic| first
  | with_reducible refine' x_seq ?_
  | with_reducible refine' x_asg ?_
  | with_reducible refine' x_gname ?_
  | ((with_reducible refine' x_var ?h ?_); (case h => exact rfl))
  | with_reducible refine' x_c ?_
  | with_reducible refine' x_op ?_
  | with_reducible refine' x_cons ?_
  | with_reducible refine' x_nil ?_
  | with_reducible refine' x_cb ?_
  | with_reducible refine' x_ret ?_
  | with_reducible refine' x_ifS ?_
  | with_reducible refine' x_test ?_
  | with_reducible refine' x_B ?_
  | with_reducible refine' x_bl ?_
  | with_reducible refine' x_if ?_
  | with_reducible refine' x_call ?_
  | with_reducible refine' x_tup ?_
  | with_reducible refine' x_lst ?_
  | with_reducible refine' x_gcons ?_
  | with_reducible refine' x_gnil ?_
  | with_reducible refine' x_gsub ?_
  | with_reducible refine' x_next ?_
  | with_reducible refine' x_drop ?_
  | with_reducible refine' x_and ?_
  | with_reducible refine' x_or ?_
  | with_reducible refine' x_not ?_
  | with_reducible refine' x_andV ?_
  | with_reducible refine' x_orV ?_
  | with_reducible refine' x_un ?_
  | with_reducible refine' x_chain ?_
  | with_reducible refine' x_sfld ?_
  | with_reducible refine' x_par ?_
  | with_reducible refine' x_par2 ?_
  | with_reducible refine' x_par3 ?_
  | with_reducible refine' x_par33 ?_
  | with_reducible refine' x_fld ?_
  | with_reducible refine' x_meth ?_
  | with_reducible refine' x_bm ?_
  | with_reducible refine' x_bm0 ?_
  | with_reducible refine' x_forL ?_
  | with_reducible refine' x_forT ?_
  | with_reducible refine' x_forR1 ?_
  | with_reducible refine' x_forET ?_
  | with_reducible refine' x_thn ?_
  | with_reducible refine' x_cm ?_
  | ((with_reducible refine' x_mkv ?h ?_); (case h => exact rfl))
  | with_reducible refine' x_mk ?_
  | with_reducible refine' x_forEL ?_
  | with_reducible refine' x_forR2 ?_
  | with_reducible refine' x_lcL ?_
  | with_reducible refine' x_lcT ?_
  | with_reducible refine' x_lcR1 ?_
  | with_reducible refine' x_lcR2 ?_
  | with_reducible refine' x_dnew ?_
  | with_reducible refine' x_retN ?_
  | with_reducible refine' x_ff ?_
  | with_reducible refine' x_lrg1 ?_
  | with_reducible refine' x_disp ?_
  | with_reducible refine' x_pnil ?_
  | with_reducible refine' x_pcons ?_
  | with_reducible refine' x_dget ?_
  | with_reducible refine' x_dput ?_
  | with_reducible refine' x_dnewN ?_
  | with_reducible refine' x_nin ?_
  | with_reducible refine' x_nget ?_
  | with_reducible refine' x_nput ?_
  | ((with_reducible refine' x_yes ?e ?_); (case e => first | decide +kernel | exact not_int_non _ | exact not_str_non _))
  | ((with_reducible refine' x_no ?e ?_); (case e => first | decide +kernel | exact int_non _ | exact str_non _ | exact rfl))
  | with_reducible refine' x_lrg2 ?_
  | with_reducible refine' x_tt ?_
  | with_reducible refine' x_break ?_
  | walk_at "i")

section
variable {P : Program} {w : World} {K : PySem.W.Frag} {mg : Str → Option Value} {base : Heap} {CM CR CP CW rd et : Addr}
def spToRow (CW : Addr) : Sp := fun vs H Q _ => ∃ (rw dx : Addr) (fs : List (Str × V)), vs = [.ref rw] ∧ H rw = some (.ins CW dx fs) ∧ Q (.ref rw) H
theorem ok_torow {f : Addr} {fd : FuncData} (F : L2.Fun K "to_row" "to_row" (topS 47) f fd) (m : mg "to_row" = some (.ref f)) (b : Binds K fd ["row"] []) (G : Gm K mg) (ins_Row : C8.InsC K CW) (g_Row : ∃ u, mg "Row" = some u ∧ RelV (.ref CW) u) : C8.Cal P w K mg base 1 "to_row" (spToRow CW) [] := by
  refine calN F m b scto_row (fun vs H Q E h => ?_) (fun cdv A outer s H vs Q E hr h => ?_)
  · obtain ⟨rw, dx, fs, rfl, _⟩ := h
    rfl
  obtain ⟨rw, dx, fs, rfl, hrw, q⟩ := h
  refine ⟨_, (pss_one (ps_ret (pe_ifExp (pt_val (pe_callB (C8.call_isC ins_Row) (by rfl) G.isinstance (by decide +kernel) (pa_cons (pv 0) (pa_cons (C8.pe_gc rfl g_Row) pa_nil)))) (pv 0) k_never))), ?_⟩
  rw [show L2.start Nscto_row [.ref rw] = [some (.ref rw)] from rfl]; try simp only [cxK, cxK2, cxP, cxW, cxPn, cxWn]
  repeat walk_at "s"
  refine ⟨rw, dx, fs, rfl, hrw, ?_⟩
  repeat walk_at "s"
  exact q
def FuOut (H' : Hp) (r : Res) (v : V) : Prop := (∃ S, r = .go S ∧ v = .non) ∨ (∃ t1 t2 p a tl, r = .stop (t1, t2) p ∧ v = .ref a ∧ H' a = some (.tup [.ref tl, .int (p : Nat)]) ∧ H' tl = some (.lst [wdO t1, wdO t2]))
def spFu (CR CW : Addr) : Sp := fun vs H Q _ => ∃ (one other rw : Addr) (R1 R2 : Rd) (us : List (Int × Int)), vs = [.ref one, .ref other, .ref rw] ∧ RdAt No H CR one R1 ∧ RdAt No H CR other R2 ∧ WF R1 ∧ WF R2 ∧ RowAt H CW rw us ∧ RunsFit us ∧
  ∀ (v : V) (H' : Hp), Same H H' → FuOut H' (scanR R1.ln R2.ln (usN us) (begS R1.ln, begS R2.ln)) v → Q v H'
theorem ok_fu {f : Addr} {fd : FuncData} (F : L2.Fun K "first_unlike" "first_unlike" (topS 50) f fd) (m : mg "first_unlike" = some (.ref f)) (b : Binds K fd ["one", "other", "row"] []) (G : Gm K mg) (CWok : RowOk K CW) (m_Pair : C8.Mak P w K mg base 4 "Pair" CP (spPinit CP CM CR) [])
    (c_to_row : C8.Cal P w K mg base 1 "to_row" (spToRow CW) []) (c_unlike : C8.Met P w K mg base 7 CP "unlike" (spUnl CP CM) []) : C8.Cal P w K mg base 8 "first_unlike" (spFu CR CW) [] := by
  refine calN F m b scfirst_unlike (fun vs H Q E h => ?_) (fun cdv A outer s H vs Q E hr h => ?_)
  · obtain ⟨one, other, rw, R1, R2, us, rfl, _⟩ := h
    rfl
  obtain ⟨one, other, rw, R1, R2, us, rfl, h1, h2, wf1, wf2, hrw, hfit, q⟩ := h
  refine ⟨_, (pss_cons (ps_set (i := 3) scfirst_unlike.nd rfl (Or.inl rfl) (C8.pe_mk m_Pair hr (by decide) rfl (pa_cons (pv 0) (pa_cons (pv 1) pa_nil)))) (pss_cons (ps_set (i := 4) scfirst_unlike.nd rfl (Or.inl rfl) pe_int) (pss_cons (ps_for PassesOwn.never rfl (pi_tup (pe_fld (C8.pe_c c_to_row hr (by decide) rfl (pa_cons (pv 2) pa_nil)) rfl)) (pg_tup rfl (pgs_cons (pg_name (i := 5) scfirst_unlike.nd rfl (Or.inl rfl)) (pgs_cons (pg_name (i := 6) scfirst_unlike.nd rfl (Or.inl rfl)) pgs_nil))) (pss_cons (ps_set (i := 7) scfirst_unlike.nd rfl (Or.inl rfl) (C8.pe_mt c_unlike hr (by decide) (pv 3) (pa_cons (pv 5) (pa_cons (pv 6) pa_nil)))) (pss_cons (ps_if (pt_cmpR op_notN1 (pv 7) pe_non (nomark _)) (pss_one (ps_ret (pe_tup (pa_cons (pe_ix ix_tup (pv 7) pe_int (fun _ _ => rfl)) (pa_cons (pe_op op_add (pv 4) (pe_ix ix_tup (pv 7) pe_int (fun _ _ => rfl))) pa_nil))))) pss_nil) (pss_one (ps_set (i := 4) scfirst_unlike.nd rfl (Or.inl rfl) (pe_op op_add (pv 4) (pv 5))))))) (pss_one (ps_ret pe_non))))), ?_⟩
  rw [show L2.start Nscfirst_unlike [.ref one, .ref other, .ref rw] = [some (.ref one), some (.ref other), some (.ref rw), none, none, none, none, none] from rfl]; try simp only [cxK, cxK2, cxP, cxW, cxPn, cxWn]
  obtain ⟨cw1, cw2⟩ := CWok
  obtain ⟨hu8, huv⟩ := hfit
  repeat walk_at "s"
  intro pr dx H1 hx s1 hx1
  repeat walk_at "s"
  refine ⟨pr, dx, one, other, R1, R2, rfl, hx1, h1.up (Kp.same s1), h2.up (Kp.same s1), wf1, wf2, fun H2 k2 hp2 => ⟨rfl, ?_⟩⟩
  have s2 : Same H H2 := fun b o e => k2 b o (ne_of_none e hx) (s1 _ _ e)
  obtain ⟨dxr, t, qs, r1, r2, r3⟩ := id hrw
  have r12 := s2 _ _ r1
  repeat walk_at "s"
  refine ⟨rw, dxr, _, rfl, r12, ?_⟩
  have r22 := s2 _ _ r2
  repeat walk_at "s"
  refine x_ForT (SqT.of r22) (fun j σ H' => ∃ (S : Two) (pl : Nat) (x5 x6 x7 : Option V), σ = [some (.ref one), some (.ref other), some (.ref rw), some (.ref pr), some (.int pl), x5, x6, x7] ∧ Same H H' ∧ PairAt H' CP CM pr R1 R2 S ∧ Live R1.ln S.1 ∧ Live R2.ln S.2 ∧
    scanR R1.ln R2.ln (usN us) (begS R1.ln, begS R2.ln) = (scanR R1.ln R2.ln ((usN us).drop j) S).sh pl) ?_ ?_ ?_ ?_
  · exact ⟨_, 0, none, none, none, rfl, s2, hp2, beg_live wf1, beg_live wf2, (Res.sh_zero _).symm⟩
  · rintro i σ H' _ ⟨_, _, _, _, _, _, s', _⟩
    exact SqT.of (s' _ _ r2)
  · rintro j x σ H3 hx' ⟨S, pl, x5, x6, x7, rfl, s3, hp3, l1, l2, hsc⟩
    obtain ⟨r, hr', rfl⟩ := map_some hx'
    obtain ⟨⟨c, cell⟩, hu⟩ := get_some (l := us) (i := j) (by have := get_lt hr'; have := r3.1; omega)
    obtain ⟨u1, u2, c0, c1⟩ := huv _ (List.mem_of_getElem? hu)
    have u1 : 1 ≤ c := u1
    have u2 : c ≤ 8 * BIG := u2
    have hBig : BIG = 10 ^ 30 + 1000 := rfl
    obtain ⟨cn, rfl⟩ : ∃ cn : Nat, c = (cn : Int) := ⟨c.toNat, by omega⟩
    have hcn : cn < 2 ^ 110 := by omega
    have hr3 : H3 r = some (.tup [.int cn, .int cell]) := s3 _ _ (r3.2 j r _ hr' hu).h
    have hun : (usN us)[j]? = some (cn, cell) := by unfold usN; rw [map_get hu] <;> rfl
    rw [drop_get hun] at hsc
    have hsc : scanR R1.ln R2.ln (usN us) (begS R1.ln, begS R2.ln) = ((scan R1.ln R2.ln cell cn S).next cn (scanR R1.ln R2.ln ((usN us).drop (j + 1)))).sh pl := hsc
    obtain ⟨dxp, mt, st, m1, m2, a1, a2, j1, _⟩ := id hp3
    repeat walk_at "s"
    refine x_MethA j1 rfl ?_
    repeat walk_at "s"
    refine ⟨pr, R1, R2, S, cn, cell, rfl, hp3, wf1, wf2, l1, l2, c0, c1, hcn, fun v H4 k4 hv => ?_⟩
    have s4 : Same H H4 := fun b o e => k4 b o (ne_of_none e hx) (s3 _ _ e)
    rcases hv with ⟨S', hs, rfl, hp4, y1, y2⟩ | ⟨t1, t2, p, a, tl, hs, rfl, ha, htl⟩
    · repeat walk_at "s"
      refine ⟨S', pl + cn, _, _, _, rfl, s4, hp4, y1, y2, ?_⟩
      rw [hsc, hs]
      show ((scanR R1.ln R2.ln ((usN us).drop (j + 1)) S').sh cn).sh pl = _
      rw [Res.sh_sh]
    · repeat walk_at "s"
      refine x_yes (by rw [decide_eq_false (fun z => nomatch z)]; rfl) ?_
      repeat walk_at "s"
      intro u H5 n5
      have e : (pl : Int) + (p : Int) = ((pl + p : Nat) : Int) := by omega
      rw [e] at n5
      refine q (.ref u) H5 (s4.trans n5.same) (.inr ⟨t1, t2, pl + p, u, tl, ?_, rfl, n5.at_, n5.up htl⟩)
      rw [hsc, hs] <;> rfl
  · rintro σ H3 ⟨S, pl, x5, x6, x7, rfl, s3, hp3, l1, l2, hsc⟩
    have hd : (usN us).drop (qs.map V.ref).length = [] := by rw [List.drop_eq_nil_iff]; unfold usN; rw [List.length_map, List.length_map, r3.1]; exact Nat.le_refl _
    rw [hd] at hsc
    repeat walk_at "s"
    exact q .non H3 s3 (.inl ⟨S, hsc, rfl⟩)
def spPart (CR CW : Addr) : Sp := fun vs H Q _ => ∃ (one other rw : Addr) (R1 R2 : Rd) (us : List (Int × Int)), vs = [.ref one, .ref other, .ref rw] ∧ RdAt No H CR one R1 ∧ RdAt No H CR other R2 ∧ WF R1 ∧ WF R2 ∧ RowAt H CW rw us ∧ RunsFit us ∧
  ∀ (H' : Hp), Same H H' → Q (ansV (answer R1 R2 (usN us))) H'
theorem ok_part {f : Addr} {fd : FuncData} (F : L2.Fun K "parting_place" "parting_place" (topS 51) f fd) (m : mg "parting_place" = some (.ref f)) (b : Binds K fd ["one", "other", "row"] []) (G : Gm K mg) (c_first_unlike : C8.Cal P w K mg base 8 "first_unlike" (spFu CR CW) []) : C8.Cal P w K mg base 9 "parting_place" (spPart CR CW) [] := by
  refine calN F m b scparting_place (fun vs H Q E h => ?_) (fun cdv A outer s H vs Q E hr h => ?_)
  · obtain ⟨one, other, rw, R1, R2, us, rfl, _⟩ := h
    rfl
  obtain ⟨one, other, rw, R1, R2, us, rfl, h1, h2, wf1, wf2, hrw, hfit, q⟩ := h
  refine ⟨_, (pss_cons (ps_set (i := 3) scparting_place.nd rfl (Or.inl rfl) (C8.pe_c c_first_unlike hr (by decide) rfl (pa_cons (pv 0) (pa_cons (pv 1) (pa_cons (pv 2) pa_nil))))) (pss_one (ps_ret (pe_ifExp (PW.pt (pw_or (pt_cmpR op_isN1 (pv 3) pe_non (nomark _)) (pw_or1 (pt_cmpR op_in_seq pe_str (pe_ix ix_tup (pv 3) pe_int (fun _ _ => rfl)) (by rfl))))) pe_non (pe_ix ix_tup (pv 3) pe_int (fun _ _ => rfl)))))), ?_⟩
  rw [show L2.start Nscparting_place [.ref one, .ref other, .ref rw] = [some (.ref one), some (.ref other), some (.ref rw), none] from rfl]; try simp only [cxK, cxK2, cxP, cxW, cxPn, cxWn]
  repeat walk_at "s"
  refine ⟨one, other, rw, R1, R2, us, rfl, h1, h2, wf1, wf2, hrw, hfit, fun v H1 s1 hv => ?_⟩
  have qq := q H1 s1
  unfold answer at qq
  rcases hv with ⟨S, hs, rfl⟩ | ⟨t1, t2, p, a, tl, hs, rfl, ha, htl⟩
  · rw [hs] at qq
    repeat walk_at "s"
    exact qq
  · rw [hs] at qq
    have hfw := flat_w t1 t2
    repeat walk_at "s"
    rw [inV_w]
    refine x_ite (fun hrf => ?_) (fun hrf => ?_)
    · repeat walk_at "s"
      have e : part (.stop (t1, t2) p) = none := if_pos hrf
      rw [e] at qq
      exact qq
    · repeat walk_at "s"
      have e : part (.stop (t1, t2) p) = some p := if_neg hrf
      rw [e] at qq
      exact qq
end
end
end K21
end

section
set_option maxRecDepth 100000
set_option maxHeartbeats 4000000
/-! K13: comprehensions over a text; len of a text; all. -/
namespace K21
open PySem PySem.Spec PyProof.Rows L2
noncomputable section
section
variable {σ : L2.St} {H : Hp} {Q : VK} {ta te : TE} {t : TT} {K : PySem.W.Frag} {g : TG}
def jS : V → Hp → (It → Hp → Prop) → Prop := fun v H1 R => ∃ x, v = .str x ∧ R (Its x) H1
theorem x_lcS {vs : List Nat} (k : ta σ H fun x H1 => LcA jS g t te vs σ x H1 Q) : tLc (iStr ta) g t te vs σ H Q := k
theorem x_LcSr {z : Str} {vs : List Nat} (Pv : Addr → Nat → Hp → Prop) (h0 : ∀ D H', New H H' D (.lst []) → Pv D 0 H')
    (hs : ∀ D i c H, z.cps[i]? = some c → Pv D i H → g (.str ⟨#[c]⟩) (wipe σ vs) H fun σ2 H2 => LcT t te vs σ D (Pv D (i + 1)) σ2 H2) (hd : ∀ D H, Pv D z.cps.size H → Q (.ref D) H) : LcA jS g t te vs σ (.str z) H Q :=
  ⟨z, rfl, fun D hD => lc_it walk_str (Pv D) (h0 D _ (New.of hD)) (fun _ _ _ _ => trivial) (fun i x H H' hi p y => by
    obtain ⟨rfl, c, hc, rfl⟩ := y
    exact hs D i c _ hc p) (hd D)⟩
def rLenS : List V → Hp → VK → Prop := fun xs H Q => ∃ z, xs = [.str z] ∧ z.length ≤ sizeLine ∧ Q (.int z.length) H
theorem k_lenS {X : Cx} : CallR X (.builtin "len") rLenS := call_len_str
theorem x_lenS {z : Str} (h : z.length ≤ sizeLine) (k : Q (.int z.length) H) : rLenS [.str z] H Q := ⟨z, rfl, h, k⟩
theorem x_all {a : Addr} {xs : List V} {bs : List Bool} (h : H a = some (.lst xs)) (e : xs = bs.map V.bl) (k : Q (.bl (bs.all id)) H) : rAll K [.ref a] H Q := ⟨a, bs, rfl, by rw [← e]; exact SqL.of h, k⟩
theorem x_inSg {c : Nat} {z : Str} (k : Q (.bl (decide (c ∈ z.cps.toList))) H) : rInS (.str ⟨#[c]⟩) (.str z) H Q := ⟨c, z, rfl, rfl, k⟩
end
end
end K21
end

section
set_option maxRecDepth 100000
set_option maxHeartbeats 4000000
namespace K21
open PySem PySem.Spec PyProof.Rows L2
noncomputable section
local macro_rules | `(tactic| walk_at "hp") => `(tactic| first
  | assumption
  | ((with_reducible refine' At.h ?q); (case q => assumption))
  | ((with_reducible refine' New.at_ ?q); (case q => assumption))
  | ((with_reducible refine' Chg.at_ ?q); (case q => assumption))
  | ((with_reducible refine' New.up ?n ?q); (case n => assumption); (case q => walk_at "hp"))
  | ((with_reducible refine' Same.up ?n ?q); (case n => assumption); (case q => walk_at "hp")))
local macro_rules | `(tactic| walk_at "sz") => `(tactic| first | exact Nat.le_of_ble_eq_true rfl | assumption | omega)
local macro_rules | `(tactic| walk_at "i") => `(tactic| first
  | with_reducible refine' x_I0 ?_
  | ((with_reducible refine' x_I ?c ?_); (case c => first | assumption | (show (_ : Int) ≠ 0; omega) | exact .inr ⟨by decide, by decide⟩ | exact .inl ⟨by decide, by decide⟩ | (refine ⟨?_, ?_⟩ <;> first | decide | omega)))
  | with_reducible refine' x_eqI ?_
  | with_reducible refine' x_neI ?_
  | with_reducible refine' x_eqS ?_
  | with_reducible refine' x_neS ?_
  | with_reducible refine' x_isN ?_
  | with_reducible refine' x_notN ?_
  | with_reducible refine' x_U ?_
  | with_reducible refine' x_int ?_
  | with_reducible refine' x_intB ?_
  | with_reducible refine' x_min2 ?_
  | with_reducible refine' x_max2 ?_
  | ((with_reducible refine' x_ixLh ?h ?v ?_); (case h => walk_at "hp"); (case v => first | exact rfl | assumption))
  | ((with_reducible refine' x_ixTh ?h ?v ?_); (case h => walk_at "hp"); (case v => first | exact rfl | assumption))
  | ((with_reducible refine' x_lenL ?h ?_); (case h => walk_at "hp"))
  | ((with_reducible refine' x_lenT ?h ?_); (case h => walk_at "hp"))
  | ((with_reducible refine' x_gtuph ?h ?l ?_); (case h => walk_at "hp"); (case l => exact rfl))
  | ((with_reducible refine' x_BmAh ?h ?_); (case h => walk_at "hp"))
  | ((with_reducible refine' x_BmA0h ?h ?_); (case h => walk_at "hp"))
  | ((with_reducible refine' x_inStr ?h ?_); (case h => walk_at "hp"))
  | ((with_reducible refine' x_ninStr ?h ?_); (case h => walk_at "hp"))
  | ((with_reducible refine' x_inInt ?h ?_); (case h => walk_at "hp"))
  | ((with_reducible refine' x_ninInt ?h ?_); (case h => walk_at "hp"))
  | ((with_reducible refine' x_inL ?h ?f ?g ?_); (case h => walk_at "hp"); (case f => exact rfl); (case g => first | exact rfl | assumption))
  | ((with_reducible refine' x_inR ?h ?f ?g ?_); (case h => assumption); (case f => exact rfl); (case g => exact rfl))
  | ((with_reducible refine' x_inT ?h ?f ?g ?_); (case h => walk_at "hp"); (case f => exact rfl); (case g => first | exact rfl | assumption))
  | ((with_reducible refine' x_notInL ?h ?f ?g ?_); (case h => walk_at "hp"); (case f => exact rfl); (case g => first | exact rfl | assumption))
  | ((with_reducible refine' x_setL ?h ?j ?_); (case h => walk_at "hp"); (case j => first | exact rfl | assumption))
  | ((with_reducible refine' x_append ?h ?l ?_); (case h => walk_at "hp"); (case l => walk_at "sz"))
  | ((with_reducible refine' x_neNil ?h ?g ?_); (case h => walk_at "hp"); (case g => walk_at "hp"))
  | ((with_reducible refine' x_eqNil ?h ?g ?_); (case h => walk_at "hp"); (case g => walk_at "hp"))
  | ((with_reducible refine' x_DgA ?h ?v ?_); (case h => walk_at "hp"); (case v => first | exact stK_at _ _ _ | exact bkK_first _ _ | exact bkK_lines _ _ | exact stK_kept _ _ _ | exact stK_left _ _ _ | assumption))
  | ((with_reducible refine' x_FldA ?h ?c ?n ?l ?_); (case h => walk_at "hp"); (case c => assumption); (case n => assumption); (case l => first | exact rfl | assumption))
  | ((with_reducible refine' x_truL ?h ?_); (case h => walk_at "hp"))
  | ((with_reducible refine' x_truT ?h ?_); (case h => walk_at "hp"))
  | ((with_reducible refine' x_kTupL ?h ?_); (case h => walk_at "hp"))
  | ((with_reducible refine' x_kTupT ?h ?_); (case h => walk_at "hp"))
  | ((with_reducible refine' x_idx ?h ?n ?x ?_); (case h => walk_at "hp"); (case n => assumption); (case x => assumption))
  | ((with_reducible refine' x_SFldA ?h ?c ?n ?l ?_); (case h => walk_at "hp"); (case c => assumption); (case n => assumption); (case l => exact Nat.le_of_ble_eq_true rfl))
  | with_reducible refine' x_MkA ?_
  | ((with_reducible refine' x_lsL ?h ?_); (case h => walk_at "hp"))
  | ((with_reducible refine' x_lsT ?h ?_); (case h => walk_at "hp"))
  | with_reducible refine' x_CmA ?_
  | with_reducible refine' x_inSg ?_
  | ((with_reducible refine' x_lenS ?h ?_); (case h => assumption))
  | ((with_reducible refine' x_DspS ?h ?_); (case h => walk_at "hp"))
  | ((with_reducible refine' x_AlT ?h ?_); (case h => walk_at "sz"))
  | ((with_reducible refine' x_AlL ?h ?_); (case h => walk_at "sz"))
  | ((with_reducible refine' x_Rg1 ?a ?b ?_); (case a => omega); (case b => omega))
  | ((with_reducible refine' x_Rg2 ?a ?b ?c ?d ?_); (case a => omega); (case b => omega); (case c => omega); (case d => omega))
  | with_reducible refine' x_AlO ?_)
local macro_rules | `(tactic| walk_at "s") => `(tactic| first
  | with_reducible refine' x_seq ?_
  | with_reducible refine' x_asg ?_
  | with_reducible refine' x_gname ?_
  | ((with_reducible refine' x_var ?h ?_); (case h => exact rfl))
  | with_reducible refine' x_c ?_
  | with_reducible refine' x_op ?_
  | with_reducible refine' x_cons ?_
  | with_reducible refine' x_nil ?_
  | with_reducible refine' x_cb ?_
  | with_reducible refine' x_ret ?_
  | with_reducible refine' x_ifS ?_
  | with_reducible refine' x_test ?_
  | with_reducible refine' x_B ?_
  | with_reducible refine' x_bl ?_
  | with_reducible refine' x_if ?_
  | with_reducible refine' x_call ?_
  | with_reducible refine' x_tup ?_
  | with_reducible refine' x_lst ?_
  | with_reducible refine' x_gcons ?_
  | with_reducible refine' x_gnil ?_
  | with_reducible refine' x_gsub ?_
  | with_reducible refine' x_next ?_
  | with_reducible refine' x_drop ?_
  | with_reducible refine' x_and ?_
  | with_reducible refine' x_or ?_
  | with_reducible refine' x_not ?_
  | with_reducible refine' x_andV ?_
  | with_reducible refine' x_orV ?_
  | with_reducible refine' x_un ?_
  | with_reducible refine' x_chain ?_
  | with_reducible refine' x_sfld ?_
  | with_reducible refine' x_par ?_
  | with_reducible refine' x_par2 ?_
  | with_reducible refine' x_par3 ?_
  | with_reducible refine' x_par33 ?_
  | with_reducible refine' x_fld ?_
  | with_reducible refine' x_meth ?_
  | with_reducible refine' x_bm ?_
  | with_reducible refine' x_bm0 ?_
  | with_reducible refine' x_forL ?_
  | with_reducible refine' x_forT ?_
  | with_reducible refine' x_forR1 ?_
  | with_reducible refine' x_forET ?_
  | with_reducible refine' x_thn ?_
  | with_reducible refine' x_lcS ?_
  | with_reducible refine' x_cm ?_
  | ((with_reducible refine' x_mkv ?h ?_); (case h => exact rfl))
  | with_reducible refine' x_mk ?_
  | with_reducible refine' x_forEL ?_
  | with_reducible refine' x_forR2 ?_
  | with_reducible refine' x_lcL ?_
  | with_reducible refine' x_lcT ?_
  | with_reducible refine' x_lcR1 ?_
  | with_reducible refine' x_lcR2 ?_
  | with_reducible refine' x_dnew ?_
  | with_reducible refine' x_retN ?_
  | with_reducible refine' x_ff ?_
  | with_reducible refine' x_lrg1 ?_
  | with_reducible refine' x_disp ?_
  | with_reducible refine' x_pnil ?_
  | with_reducible refine' x_pcons ?_
  | with_reducible refine' x_dget ?_
  | with_reducible refine' x_dput ?_
  | with_reducible refine' x_dnewN ?_
  | with_reducible refine' x_nin ?_
  | with_reducible refine' x_nget ?_
  | with_reducible refine' x_nput ?_
  | ((with_reducible refine' x_yes ?e ?_); (case e => first | decide +kernel | exact not_int_non _ | exact not_str_non _))
  | ((with_reducible refine' x_no ?e ?_); (case e => first | decide +kernel | exact int_non _ | exact str_non _ | exact rfl))
  | with_reducible refine' x_lrg2 ?_
  | with_reducible refine' x_tt ?_
  | with_reducible refine' x_break ?_
  | walk_at "i")

def Nscfits_name : List Str := ["text", "letter"]
theorem scfits_name : FnScope Nscfits_name ["text"] (defScope (topS 19)) := ⟨rfl, rfl, rfl, by decide +kernel, rfl, by decide +kernel, by decide +kernel⟩
def Nscfits_ways : List Str := ["ways", "values", "pair"]
theorem scfits_ways : FnScope Nscfits_ways ["ways"] (defScope (topS 20)) := ⟨rfl, rfl, rfl, by decide +kernel, rfl, by decide +kernel, by decide +kernel⟩
section
variable {P : Program} {w : World} {K : PySem.W.Frag} {mg : Str → Option Value} {base : Heap}
def spFname : Sp := fun vs H Q _ => ∃ (x : Str), vs = [.str x] ∧ NmOk x ∧ ∀ H', Same H H' → Q (.bl true) H'
theorem ok_fname {f : Addr} {fd : FuncData} (F : L2.Fun K "fits_name" "fits_name" (topS 19) f fd) (m : mg "fits_name" = some (.ref f)) (b : Binds K fd ["text"] []) (G : Gm K mg) : C8.Cal P w K mg base 1 "fits_name" spFname [] := by
  refine calN F m b scfits_name (fun vs H Q E h => ?_) (fun cdv A outer s H vs Q E hr h => ?_)
  · obtain ⟨x, rfl, _⟩ := h
    rfl
  obtain ⟨x, rfl, ok, q⟩ := h
  refine ⟨_, (pss_one (ps_ret (pe_and (pe_chain op_le op_le pe_int (pe_callB k_lenS (by rfl) G.len PySem.boot_len (pa_cons (pv 0) pa_nil)) pe_int) (pe_one (pe_callB (cr_all rfl) (by rfl) G.all (by decide +kernel) (pa_cons (pe_lc (own := [("letter", 1)]) rfl scfits_name.nd (pi_str (pv 0)) (blkOk_by (own := [("letter", 1)]) (N := Nscfits_name) (sc := defScope (topS 19)) (by decide +kernel)) (fun _ _ _ _ _ => (pg_name (i := 1) scfits_name.nd rfl (Or.inl rfl))) (fun _ _ _ _ _ => pts_nil) (fun _ _ _ _ _ => (pe_cmpR op_inS (pv 1) (C8.pe_gc rfl G.LETTERS) (by rfl)))) pa_nil)))))), ?_⟩
  rw [show L2.start Nscfits_name [.str x] = [some (.str x), none] from rfl]; try simp only [cxK, cxK2, cxP, cxW, cxPn, cxWn]
  obtain ⟨l1, l2, sg⟩ := ok
  have hz : x.length ≤ sizeLine := by rw [sizeLine_eq]; omega
  repeat walk_at "s"
  refine x_yes (decide_eq_true (by omega)) ?_
  repeat walk_at "s"
  refine x_yes (decide_eq_true (by omega)) ?_
  repeat walk_at "s"
  have hcl : x.cps.size ≤ 12 := l2
  refine x_LcSr (fun D i H' => H D = none ∧ Same H H' ∧ i ≤ 12 ∧ H' D = some (.lst ((List.replicate i true).map V.bl))) ?_ ?_ ?_
  · intro D H1 n1
    exact ⟨n1.fresh, n1.same, Nat.zero_le _, n1.at_⟩
  · rintro D i c H1 hc ⟨hD, s1, hi, hD1⟩
    have hi' : i < x.cps.size := (Array.getElem?_eq_some_iff.mp hc).1
    have hm : c ∈ letters.cps.toList := sg c (by rw [Array.mem_toList_iff]; exact Array.mem_of_getElem? hc)
    repeat walk_at "s"
    refine x_LcY rfl ?_
    repeat walk_at "s"
    have e : decide (c ∈ (Str.ofString "abcdefghijklmnopqrstuvwxyz").cps.toList) = true := decide_eq_true hm
    rw [e]
    refine x_App hD1 (by rw [List.length_map, List.length_replicate, sizeLine_eq]; omega) fun H2 c2 => ⟨hD, Same.chg s1 hD c2, by omega, ?_⟩
    rw [List.replicate_succ', List.map_append]
    exact c2.at_
  · rintro D H1 ⟨hD, s1, hi, hD1⟩
    repeat walk_at "s"
    refine x_all hD1 rfl ?_
    have e : (List.replicate x.cps.size true).all id = true := by rw [List.all_eq_true]; intro b hb; rw [List.eq_of_mem_replicate hb] <;> rfl
    rw [e]
    exact q H1 s1
def spFways : Sp := fun vs H Q _ => ∃ (wa : Addr) (rs : List Addr) (ws : List (Int × Nat)) (f : Nat → V), vs = [.ref wa] ∧ H wa = some (.lst (rs.map V.ref)) ∧ WaysAt No H f rs ws ∧ (ws.map (·.1)).Nodup ∧ (∀ p ∈ ws, 0 ≤ p.1 ∧ p.1 ≤ 5) ∧ ws.length ≤ 6 ∧ ∀ H', Same H H' → Q (.bl true) H'
theorem ok_fways {f : Addr} {fd : FuncData} (F : L2.Fun K "fits_ways" "fits_ways" (topS 20) f fd) (m : mg "fits_ways" = some (.ref f)) (b : Binds K fd ["ways"] []) (G : Gm K mg) : C8.Cal P w K mg base 1 "fits_ways" spFways [] := by
  refine calN F m b scfits_ways (fun vs H Q E h => ?_) (fun cdv A outer s H vs Q E hr h => ?_)
  · obtain ⟨wa, rs, ws, f, rfl, _⟩ := h
    rfl
  obtain ⟨wa, rs, ws, f, rfl, hwa, hws, nd, hb, hle, q⟩ := h
  refine ⟨_, (pss_cons (ps_set (i := 1) scfits_ways.nd rfl (Or.inl rfl) (pe_lst pa_nil)) (pss_cons (ps_for PassesOwn.never rfl (pi_list (pv 0)) (pg_name (i := 2) scfits_ways.nd rfl (Or.inl rfl)) (pss_cons (ps_if (PW.pt (pw_or (pt_cmpR op_ne (pe_callB k_len (by rfl) G.len PySem.boot_len (pa_cons (pv 2) pa_nil)) pe_int (nomark _)) (pw_or (pt_not (pt_chain op_le op_le pe_int (pe_ix ix_tup (pv 2) pe_int (fun _ _ => rfl)) (C8.pe_gc rfl G.MOST_VALUE))) (pw_or1 (pt_cmpR op_in_seq (pe_ix ix_tup (pv 2) pe_int (fun _ _ => rfl)) (pv 1) (by rfl)))))) (pss_one (ps_ret pe_bl)) pss_nil) (pss_one (ps_expr (pe_bm PySem.F.plainAttrs_list PySem.F.slot_list_append PySem.F.type_list_append mt_append (pv 1) (pa_cons (pe_ix ix_tup (pv 2) pe_int (fun _ _ => rfl)) pa_nil)))))) (pss_one (ps_ret pe_bl)))), ?_⟩
  rw [show L2.start Nscfits_ways [.ref wa] = [some (.ref wa), none, none] from rfl]; try simp only [cxK, cxK2, cxP, cxW, cxPn, cxWn]
  repeat walk_at "s"
  intro p H1 n1
  have hpn : H p = none := n1.fresh
  have hwa1 := n1.up hwa
  repeat walk_at "s"
  refine x_ForL (SqL.of hwa1) (fun j σ H' => ∃ x2 : Option V, σ = [some (.ref wa), some (.ref p), x2] ∧ Same H H' ∧ H' p = some (.lst (((ws.map (·.1)).take j).map V.int))) ?_ ?_ ?_ ?_
  · exact ⟨none, rfl, n1.same, n1.at_⟩
  · rintro i σ H' _ ⟨_, _, s', _⟩
    exact SqL.of (s' _ _ hwa)
  · rintro j x σ H2 hx ⟨x2, rfl, s2, hp2⟩
    obtain ⟨r, hr', rfl⟩ := map_some hx
    obtain ⟨y, hy⟩ := get_some (l := ws) (i := j) (by have := get_lt hr'; have := hws.1; omega)
    have hr2 : H2 r = some (.tup [.int y.1, f y.2]) := s2 _ _ (hws.2 j r y hr' hy).h
    obtain ⟨b1, b2⟩ := hb y (List.mem_of_getElem? hy)
    have hym : (ws.map (·.1))[j]? = some y.1 := map_get hy
    have hnot : y.1 ∉ (ws.map (·.1)).take j := fun hm => by
      obtain ⟨i, hi, e⟩ := List.mem_iff_getElem.mp hm
      rw [List.getElem_take] at e
      have pw := List.pairwise_iff_getElem.mp nd
      obtain ⟨g1, g2⟩ := List.getElem?_eq_some_iff.mp hym
      have hi' : i < j := by rw [List.length_take] at hi; omega
      exact pw i j (by omega) g1 hi' (e.trans g2.symm)
    have htk : (((ws.map (·.1)).take j).map V.int).length < sizeLine := by rw [List.length_map, List.length_take, List.length_map, sizeLine_eq]; omega
    repeat walk_at "s"
    refine x_yes (decide_eq_true b1) ?_
    repeat walk_at "s"
    rw [decide_eq_true b2]
    repeat walk_at "s"
    refine x_no (decide_eq_false hnot) ?_
    repeat walk_at "s"
    intro H3 c3
    repeat walk_at "s"
    refine ⟨_, rfl, Same.chg s2 hpn c3, ?_⟩
    rw [List.take_add_one, hym, List.map_append]
    exact c3.at_
  · rintro σ H2 ⟨x2, rfl, s2, hp2⟩
    repeat walk_at "s"
    exact q H2 s2
end
end
end K21
end

section
set_option maxRecDepth 100000
set_option maxHeartbeats 4000000
namespace K21
open PySem PySem.Spec PyProof.Rows L2
noncomputable section
local macro_rules | `(tactic| walk_at "hp") => `(tactic| first
  | assumption
  | ((with_reducible refine' At.h ?q); (case q => assumption))
  | ((with_reducible refine' New.at_ ?q); (case q => assumption))
  | ((with_reducible refine' Chg.at_ ?q); (case q => assumption))
  | ((with_reducible refine' New.up ?n ?q); (case n => assumption); (case q => walk_at "hp"))
  | ((with_reducible refine' Same.up ?n ?q); (case n => assumption); (case q => walk_at "hp")))
local macro_rules | `(tactic| walk_at "sz") => `(tactic| first | exact Nat.le_of_ble_eq_true rfl | assumption | omega)
local macro_rules | `(tactic| walk_at "i") => `(tactic| first
  | with_reducible refine' x_I0 ?_
  | ((with_reducible refine' x_I ?c ?_); (case c => first | assumption | (show (_ : Int) ≠ 0; omega) | exact .inr ⟨by decide, by decide⟩ | exact .inl ⟨by decide, by decide⟩ | (refine ⟨?_, ?_⟩ <;> first | decide | omega)))
  | with_reducible refine' x_eqI ?_
  | with_reducible refine' x_neI ?_
  | with_reducible refine' x_eqS ?_
  | with_reducible refine' x_neS ?_
  | with_reducible refine' x_isN ?_
  | with_reducible refine' x_notN ?_
  | with_reducible refine' x_U ?_
  | with_reducible refine' x_int ?_
  | with_reducible refine' x_intB ?_
  | with_reducible refine' x_min2 ?_
  | with_reducible refine' x_max2 ?_
  | ((with_reducible refine' x_ixLh ?h ?v ?_); (case h => walk_at "hp"); (case v => first | exact rfl | assumption))
  | ((with_reducible refine' x_ixTh ?h ?v ?_); (case h => walk_at "hp"); (case v => first | exact rfl | assumption))
  | ((with_reducible refine' x_lenL ?h ?_); (case h => walk_at "hp"))
  | ((with_reducible refine' x_lenT ?h ?_); (case h => walk_at "hp"))
  | ((with_reducible refine' x_gtuph ?h ?l ?_); (case h => walk_at "hp"); (case l => exact rfl))
  | ((with_reducible refine' x_BmAh ?h ?_); (case h => walk_at "hp"))
  | ((with_reducible refine' x_BmA0h ?h ?_); (case h => walk_at "hp"))
  | ((with_reducible refine' x_inStr ?h ?_); (case h => walk_at "hp"))
  | ((with_reducible refine' x_ninStr ?h ?_); (case h => walk_at "hp"))
  | ((with_reducible refine' x_inInt ?h ?_); (case h => walk_at "hp"))
  | ((with_reducible refine' x_ninInt ?h ?_); (case h => walk_at "hp"))
  | ((with_reducible refine' x_inL ?h ?f ?g ?_); (case h => walk_at "hp"); (case f => exact rfl); (case g => first | exact rfl | assumption))
  | ((with_reducible refine' x_inR ?h ?f ?g ?_); (case h => assumption); (case f => exact rfl); (case g => exact rfl))
  | ((with_reducible refine' x_inT ?h ?f ?g ?_); (case h => walk_at "hp"); (case f => exact rfl); (case g => first | exact rfl | assumption))
  | ((with_reducible refine' x_notInL ?h ?f ?g ?_); (case h => walk_at "hp"); (case f => exact rfl); (case g => first | exact rfl | assumption))
  | ((with_reducible refine' x_setL ?h ?j ?_); (case h => walk_at "hp"); (case j => first | exact rfl | assumption))
  | ((with_reducible refine' x_append ?h ?l ?_); (case h => walk_at "hp"); (case l => walk_at "sz"))
  | ((with_reducible refine' x_neNil ?h ?g ?_); (case h => walk_at "hp"); (case g => walk_at "hp"))
  | ((with_reducible refine' x_eqNil ?h ?g ?_); (case h => walk_at "hp"); (case g => walk_at "hp"))
  | ((with_reducible refine' x_DgA ?h ?v ?_); (case h => walk_at "hp"); (case v => first | exact stK_at _ _ _ | exact bkK_first _ _ | exact bkK_lines _ _ | exact stK_kept _ _ _ | exact stK_left _ _ _ | assumption))
  | ((with_reducible refine' x_FldA ?h ?c ?n ?l ?_); (case h => walk_at "hp"); (case c => assumption); (case n => assumption); (case l => first | exact rfl | assumption))
  | ((with_reducible refine' x_truL ?h ?_); (case h => walk_at "hp"))
  | ((with_reducible refine' x_truT ?h ?_); (case h => walk_at "hp"))
  | ((with_reducible refine' x_kTupL ?h ?_); (case h => walk_at "hp"))
  | ((with_reducible refine' x_kTupT ?h ?_); (case h => walk_at "hp"))
  | ((with_reducible refine' x_idx ?h ?n ?x ?_); (case h => walk_at "hp"); (case n => assumption); (case x => assumption))
  | ((with_reducible refine' x_SFldA ?h ?c ?n ?l ?_); (case h => walk_at "hp"); (case c => assumption); (case n => assumption); (case l => exact Nat.le_of_ble_eq_true rfl))
  | with_reducible refine' x_MkA ?_
  | ((with_reducible refine' x_lsL ?h ?_); (case h => walk_at "hp"))
  | ((with_reducible refine' x_lsT ?h ?_); (case h => walk_at "hp"))
  | with_reducible refine' x_CmA ?_
  | with_reducible refine' x_inSg ?_
  | ((with_reducible refine' x_lenS ?h ?_); (case h => assumption))
  | ((with_reducible refine' x_DspS ?h ?_); (case h => walk_at "hp"))
  | ((with_reducible refine' x_AlT ?h ?_); (case h => walk_at "sz"))
  | ((with_reducible refine' x_AlL ?h ?_); (case h => walk_at "sz"))
  | ((with_reducible refine' x_Rg1 ?a ?b ?_); (case a => omega); (case b => omega))
  | ((with_reducible refine' x_Rg2 ?a ?b ?c ?d ?_); (case a => omega); (case b => omega); (case c => omega); (case d => omega))
  | with_reducible refine' x_AlO ?_)
local macro_rules | `(tactic| walk_at "s") => `(tactic| first
  | with_reducible refine' x_seq ?_
  | with_reducible refine' x_asg ?_
  | with_reducible refine' x_gname ?_
  | ((with_reducible refine' x_var ?h ?_); (case h => exact rfl))
  | with_reducible refine' x_c ?_
  | with_reducible refine' x_op ?_
  | with_reducible refine' x_cons ?_
  | with_reducible refine' x_nil ?_
  | with_reducible refine' x_cb ?_
  | with_reducible refine' x_ret ?_
  | with_reducible refine' x_ifS ?_
  | with_reducible refine' x_test ?_
  | with_reducible refine' x_B ?_
  | with_reducible refine' x_bl ?_
  | with_reducible refine' x_if ?_
  | with_reducible refine' x_call ?_
  | with_reducible refine' x_tup ?_
  | with_reducible refine' x_lst ?_
  | with_reducible refine' x_gcons ?_
  | with_reducible refine' x_gnil ?_
  | with_reducible refine' x_gsub ?_
  | with_reducible refine' x_next ?_
  | with_reducible refine' x_drop ?_
  | with_reducible refine' x_and ?_
  | with_reducible refine' x_or ?_
  | with_reducible refine' x_not ?_
  | with_reducible refine' x_andV ?_
  | with_reducible refine' x_orV ?_
  | with_reducible refine' x_un ?_
  | with_reducible refine' x_chain ?_
  | with_reducible refine' x_sfld ?_
  | with_reducible refine' x_par ?_
  | with_reducible refine' x_par2 ?_
  | with_reducible refine' x_par3 ?_
  | with_reducible refine' x_par33 ?_
  | with_reducible refine' x_fld ?_
  | with_reducible refine' x_meth ?_
  | with_reducible refine' x_bm ?_
  | with_reducible refine' x_bm0 ?_
  | with_reducible refine' x_forL ?_
  | with_reducible refine' x_forT ?_
  | with_reducible refine' x_forR1 ?_
  | with_reducible refine' x_forET ?_
  | with_reducible refine' x_thn ?_
  | with_reducible refine' x_lcS ?_
  | with_reducible refine' x_cm ?_
  | ((with_reducible refine' x_mkv ?h ?_); (case h => exact rfl))
  | with_reducible refine' x_mk ?_
  | with_reducible refine' x_forEL ?_
  | with_reducible refine' x_forR2 ?_
  | with_reducible refine' x_lcL ?_
  | with_reducible refine' x_lcT ?_
  | with_reducible refine' x_lcR1 ?_
  | with_reducible refine' x_lcR2 ?_
  | with_reducible refine' x_dnew ?_
  | with_reducible refine' x_retN ?_
  | with_reducible refine' x_ff ?_
  | with_reducible refine' x_lrg1 ?_
  | with_reducible refine' x_disp ?_
  | with_reducible refine' x_pnil ?_
  | with_reducible refine' x_pcons ?_
  | with_reducible refine' x_dget ?_
  | with_reducible refine' x_dput ?_
  | with_reducible refine' x_dnewN ?_
  | with_reducible refine' x_nin ?_
  | with_reducible refine' x_nget ?_
  | with_reducible refine' x_nput ?_
  | ((with_reducible refine' x_yes ?e ?_); (case e => first | decide +kernel | exact not_int_non _ | exact not_str_non _))
  | ((with_reducible refine' x_no ?e ?_); (case e => first | decide +kernel | exact int_non _ | exact str_non _ | exact rfl))
  | with_reducible refine' x_lrg2 ?_
  | with_reducible refine' x_tt ?_
  | with_reducible refine' x_break ?_
  | walk_at "i")

def Nscfits_line : List Str := ["line"]
theorem scfits_line : FnScope Nscfits_line ["line"] (defScope (topS 21)) := ⟨rfl, rfl, rfl, by decide +kernel, rfl, by decide +kernel, by decide +kernel⟩
def szL : List (Str × Int) := [("case", 3), ("take", 2), ("rest", 3), ("cap", 3), ("jump", 3), ("set", 3), ("upto", 4), ("skip", 3), ("cut", 1), ("refuse", 1)]
def leL : List (Str × Int) := [("rest", 2), ("cap", 0), ("jump", 1), ("set", 0), ("upto", 0), ("skip", -3)]
def grL : List (Str × Int) := [("rest", 4), ("cap", 5), ("jump", 4), ("set", 5), ("upto", 5), ("skip", 4)]
/-- what a written dict holds -/
def Hs (K : PySem.W.Frag) (d : Addr) (kvs : List (Str × Int)) : Prop := ∀ q ∈ kvs, ∃ u, PySem.W.nsIn K d q.1 = some (some u) ∧ RelV (.int q.2) u
section
variable {P : Program} {w : World} {K : PySem.W.Frag} {mg : Str → Option Value} {base : Heap} {dS dL dG : Addr} {eS eL eG : Array DictEntry} {iS iL iG : Nat}
theorem Hs.get {d : Addr} {es : Array DictEntry} {n : Nat} {kvs : List (Str × Int)} (h : Hs K d kvs) (kd : KDict K w d es n) {z : Str} {v : Int} (hm : (z, v) ∈ kvs) : KDct K w d z (.int v) := by
  obtain ⟨u, e, r⟩ := h _ hm
  exact ⟨es, n, u, kd.at_, kd.lit, e, r⟩
theorem Hs.is {d : Addr} {kvs : List (Str × Int)} (h : Hs K d kvs) {z : Str} {v : Int} (hm : (z, v) ∈ kvs) : ∃ u, PySem.W.nsIn K d z = some (some u) := by
  obtain ⟨u, e, _⟩ := h _ hm
  exact ⟨u, e⟩
def spFline : Sp := fun vs H Q _ => ∃ (la : Addr) (l : Ln) (f : Nat → V), vs = [.ref la] ∧ LnAt No H f false la l ∧ l.par ∧ ∀ H', Same H H' → Q (.bl true) H'
theorem ok_fline {f : Addr} {fd : FuncData} (F : L2.Fun K "fits_line" "fits_line" (topS 21) f fd) (m : mg "fits_line" = some (.ref f)) (b : Binds K fd ["line"] []) (G : Gm K mg) (g_SIZES : ∃ u, mg "SIZES" = some u ∧ RelV (.ref dS) u) (g_LEAST : ∃ u, mg "LEAST" = some u ∧ RelV (.ref dL) u)
    (g_GREATEST : ∃ u, mg "GREATEST" = some u ∧ RelV (.ref dG) u) (kd_SIZES : KDict K w dS eS iS) (kd_LEAST : KDict K w dL eL iL) (kd_GREATEST : KDict K w dG eG iG) (hS : Hs K dS szL) (hL : Hs K dL leL) (hG : Hs K dG grL) (hN : ∀ z ∈ (["case", "take", "cut", "refuse"] : List Str), PySem.W.nsIn K dL z = some none)
    (c_fits_ways : C8.Cal P w K mg base 1 "fits_ways" spFways []) : C8.Cal P w K mg base 2 "fits_line" spFline [] := by
  refine calN F m b scfits_line (fun vs H Q E h => ?_) (fun cdv A outer s H vs Q E hr h => ?_)
  · obtain ⟨la, l, f, rfl, _⟩ := h
    rfl
  obtain ⟨la, l, f, rfl, ⟨wa, a1, a2⟩, hpar, q⟩ := h
  refine ⟨_, (pss_cons (ps_if (PW.pt (pw_or (pt_not (pt_truth (pv 0) (by intro _; rfl))) (pw_or (pt_cmpR (op_notIn_kd kd_SIZES) (pe_ix ix_tup (pv 0) pe_int (fun _ _ => rfl)) (C8.pe_gc rfl g_SIZES) (by rfl)) (pw_or1 (pt_cmpR op_ne (pe_callB k_len (by rfl) G.len PySem.boot_len (pa_cons (pv 0) pa_nil)) (pe_ix ix_kdict (C8.pe_gc rfl g_SIZES) (pe_ix ix_tup (pv 0) pe_int (fun _ _ => rfl)) (fun _ _ => rfl)) (nomark _)))))) (pss_one (ps_ret pe_bl)) pss_nil) (pss_cons (ps_if (pt_cmpR op_eq (pe_ix ix_tup (pv 0) pe_int (fun _ _ => rfl)) pe_str (nomark _)) (pss_one (ps_ret (C8.pe_c c_fits_ways hr (by decide) rfl (pa_cons (pe_ix ix_tup (pv 0) pe_int (fun _ _ => rfl)) pa_nil)))) pss_nil) (pss_one (ps_ret (pe_or (pe_cmpR (op_notIn_kd kd_LEAST) (pe_ix ix_tup (pv 0) pe_int (fun _ _ => rfl)) (C8.pe_gc rfl g_LEAST) (by rfl)) (pe_one (pe_chain op_le op_le (pe_ix ix_kdict (C8.pe_gc rfl g_LEAST) (pe_ix ix_tup (pv 0) pe_int (fun _ _ => rfl)) (fun _ _ => rfl)) (pe_ix ix_tup (pv 0) pe_int (fun _ _ => rfl)) (pe_ix ix_kdict (C8.pe_gc rfl g_GREATEST) (pe_ix ix_tup (pv 0) pe_int (fun _ _ => rfl)) (fun _ _ => rfl))))))))), ?_⟩
  rw [show L2.start Nscfits_line [.ref la] = [some (.ref la)] from rfl]; try simp only [cxK, cxK2, cxP, cxW, cxPn, cxWn]
  have a1' := a1.h
  cases l with
  | cas ws o =>
    have h5 : H la = some (.tup [.str Wd.cas.str, .ref wa, f o]) := a1'
    obtain ⟨uS, eqS⟩ := hS.is (z := Wd.cas.str) (v := 3) (.head _)
    have gS := hS.get kd_SIZES (z := Wd.cas.str) (v := 3) (.head _)
    repeat walk_at "s"
    refine ⟨Wd.cas.str, some uS, rfl, rfl, eqS, ?_⟩
    repeat walk_at "s"
    refine ⟨dS, Wd.cas.str, .int 3, rfl, rfl, gS, ?_⟩
    repeat walk_at "s"
    obtain ⟨rs, g1, g2⟩ := a2 ws o rfl
    exact ⟨wa, rs, ws, f, rfl, g1.h, g2, hpar.1, hpar.2.1, hpar.2.2, q⟩
  | tak t =>
    have h5 : H la = some (.tup [.str Wd.tak.str, f t]) := a1'
    obtain ⟨uS, eqS⟩ := hS.is (z := Wd.tak.str) (v := 2) (.tail _ (.head _))
    have gS := hS.get kd_SIZES (z := Wd.tak.str) (v := 2) (.tail _ (.head _))
    repeat walk_at "s"
    refine ⟨Wd.tak.str, some uS, rfl, rfl, eqS, ?_⟩
    repeat walk_at "s"
    refine ⟨dS, Wd.tak.str, .int 2, rfl, rfl, gS, ?_⟩
    repeat walk_at "s"
    refine ⟨Wd.tak.str, none, rfl, rfl, hN _ (.tail _ (.head _)), ?_⟩
    repeat walk_at "s"
    exact q H (Same.refl _)
  | rst v t =>
    have h5 : H la = some (.tup [.str Wd.rst.str, .int v, f t]) := a1'
    obtain ⟨uS, eqS⟩ := hS.is (z := Wd.rst.str) (v := 3) (.tail _ (.tail _ (.head _)))
    have gS := hS.get kd_SIZES (z := Wd.rst.str) (v := 3) (.tail _ (.tail _ (.head _)))
    repeat walk_at "s"
    refine ⟨Wd.rst.str, some uS, rfl, rfl, eqS, ?_⟩
    repeat walk_at "s"
    refine ⟨dS, Wd.rst.str, .int 3, rfl, rfl, gS, ?_⟩
    repeat walk_at "s"
    obtain ⟨uL, eqL⟩ := hL.is (z := Wd.rst.str) (v := 2) (.head _)
    have gL := hL.get kd_LEAST (z := Wd.rst.str) (v := 2) (.head _)
    have gG := hG.get kd_GREATEST (z := Wd.rst.str) (v := 4) (.head _)
    have hp : 2 ≤ v ∧ v ≤ 4 := hpar
    refine ⟨Wd.rst.str, some uL, rfl, rfl, eqL, ?_⟩
    repeat walk_at "s"
    refine ⟨dL, Wd.rst.str, .int 2, rfl, rfl, gL, ?_⟩
    repeat walk_at "s"
    refine x_yes (decide_eq_true hp.1) ?_
    repeat walk_at "s"
    refine ⟨dG, Wd.rst.str, .int 4, rfl, rfl, gG, ?_⟩
    repeat walk_at "s"
    rw [decide_eq_true hp.2]
    exact q H (Same.refl _)
  | cap v t =>
    have h5 : H la = some (.tup [.str Wd.cap.str, .int v, f t]) := a1'
    obtain ⟨uS, eqS⟩ := hS.is (z := Wd.cap.str) (v := 3) (.tail _ (.tail _ (.tail _ (.head _))))
    have gS := hS.get kd_SIZES (z := Wd.cap.str) (v := 3) (.tail _ (.tail _ (.tail _ (.head _))))
    repeat walk_at "s"
    refine ⟨Wd.cap.str, some uS, rfl, rfl, eqS, ?_⟩
    repeat walk_at "s"
    refine ⟨dS, Wd.cap.str, .int 3, rfl, rfl, gS, ?_⟩
    repeat walk_at "s"
    obtain ⟨uL, eqL⟩ := hL.is (z := Wd.cap.str) (v := 0) (.tail _ (.head _))
    have gL := hL.get kd_LEAST (z := Wd.cap.str) (v := 0) (.tail _ (.head _))
    have gG := hG.get kd_GREATEST (z := Wd.cap.str) (v := 5) (.tail _ (.head _))
    have hp : 0 ≤ v ∧ v ≤ 5 := hpar
    refine ⟨Wd.cap.str, some uL, rfl, rfl, eqL, ?_⟩
    repeat walk_at "s"
    refine ⟨dL, Wd.cap.str, .int 0, rfl, rfl, gL, ?_⟩
    repeat walk_at "s"
    refine x_yes (decide_eq_true hp.1) ?_
    repeat walk_at "s"
    refine ⟨dG, Wd.cap.str, .int 5, rfl, rfl, gG, ?_⟩
    repeat walk_at "s"
    rw [decide_eq_true hp.2]
    exact q H (Same.refl _)
  | jmp v t =>
    have h5 : H la = some (.tup [.str Wd.jmp.str, .int v, f t]) := a1'
    obtain ⟨uS, eqS⟩ := hS.is (z := Wd.jmp.str) (v := 3) (.tail _ (.tail _ (.tail _ (.tail _ (.head _)))))
    have gS := hS.get kd_SIZES (z := Wd.jmp.str) (v := 3) (.tail _ (.tail _ (.tail _ (.tail _ (.head _)))))
    repeat walk_at "s"
    refine ⟨Wd.jmp.str, some uS, rfl, rfl, eqS, ?_⟩
    repeat walk_at "s"
    refine ⟨dS, Wd.jmp.str, .int 3, rfl, rfl, gS, ?_⟩
    repeat walk_at "s"
    obtain ⟨uL, eqL⟩ := hL.is (z := Wd.jmp.str) (v := 1) (.tail _ (.tail _ (.head _)))
    have gL := hL.get kd_LEAST (z := Wd.jmp.str) (v := 1) (.tail _ (.tail _ (.head _)))
    have gG := hG.get kd_GREATEST (z := Wd.jmp.str) (v := 4) (.tail _ (.tail _ (.head _)))
    have hp : 1 ≤ v ∧ v ≤ 4 := hpar
    refine ⟨Wd.jmp.str, some uL, rfl, rfl, eqL, ?_⟩
    repeat walk_at "s"
    refine ⟨dL, Wd.jmp.str, .int 1, rfl, rfl, gL, ?_⟩
    repeat walk_at "s"
    refine x_yes (decide_eq_true hp.1) ?_
    repeat walk_at "s"
    refine ⟨dG, Wd.jmp.str, .int 4, rfl, rfl, gG, ?_⟩
    repeat walk_at "s"
    rw [decide_eq_true hp.2]
    exact q H (Same.refl _)
  | set v t =>
    have h5 : H la = some (.tup [.str Wd.set.str, .int v, f t]) := a1'
    obtain ⟨uS, eqS⟩ := hS.is (z := Wd.set.str) (v := 3) (.tail _ (.tail _ (.tail _ (.tail _ (.tail _ (.head _))))))
    have gS := hS.get kd_SIZES (z := Wd.set.str) (v := 3) (.tail _ (.tail _ (.tail _ (.tail _ (.tail _ (.head _))))))
    repeat walk_at "s"
    refine ⟨Wd.set.str, some uS, rfl, rfl, eqS, ?_⟩
    repeat walk_at "s"
    refine ⟨dS, Wd.set.str, .int 3, rfl, rfl, gS, ?_⟩
    repeat walk_at "s"
    obtain ⟨uL, eqL⟩ := hL.is (z := Wd.set.str) (v := 0) (.tail _ (.tail _ (.tail _ (.head _))))
    have gL := hL.get kd_LEAST (z := Wd.set.str) (v := 0) (.tail _ (.tail _ (.tail _ (.head _))))
    have gG := hG.get kd_GREATEST (z := Wd.set.str) (v := 5) (.tail _ (.tail _ (.tail _ (.head _))))
    have hp : 0 ≤ v ∧ v ≤ 5 := hpar
    refine ⟨Wd.set.str, some uL, rfl, rfl, eqL, ?_⟩
    repeat walk_at "s"
    refine ⟨dL, Wd.set.str, .int 0, rfl, rfl, gL, ?_⟩
    repeat walk_at "s"
    refine x_yes (decide_eq_true hp.1) ?_
    repeat walk_at "s"
    refine ⟨dG, Wd.set.str, .int 5, rfl, rfl, gG, ?_⟩
    repeat walk_at "s"
    rw [decide_eq_true hp.2]
    exact q H (Same.refl _)
  | upt v t u =>
    have h5 : H la = some (.tup [.str Wd.upt.str, .int v, f t, f u]) := a1'
    obtain ⟨uS, eqS⟩ := hS.is (z := Wd.upt.str) (v := 4) (.tail _ (.tail _ (.tail _ (.tail _ (.tail _ (.tail _ (.head _)))))))
    have gS := hS.get kd_SIZES (z := Wd.upt.str) (v := 4) (.tail _ (.tail _ (.tail _ (.tail _ (.tail _ (.tail _ (.head _)))))))
    repeat walk_at "s"
    refine ⟨Wd.upt.str, some uS, rfl, rfl, eqS, ?_⟩
    repeat walk_at "s"
    refine ⟨dS, Wd.upt.str, .int 4, rfl, rfl, gS, ?_⟩
    repeat walk_at "s"
    obtain ⟨uL, eqL⟩ := hL.is (z := Wd.upt.str) (v := 0) (.tail _ (.tail _ (.tail _ (.tail _ (.head _)))))
    have gL := hL.get kd_LEAST (z := Wd.upt.str) (v := 0) (.tail _ (.tail _ (.tail _ (.tail _ (.head _)))))
    have gG := hG.get kd_GREATEST (z := Wd.upt.str) (v := 5) (.tail _ (.tail _ (.tail _ (.tail _ (.head _)))))
    have hp : 0 ≤ v ∧ v ≤ 5 := hpar
    refine ⟨Wd.upt.str, some uL, rfl, rfl, eqL, ?_⟩
    repeat walk_at "s"
    refine ⟨dL, Wd.upt.str, .int 0, rfl, rfl, gL, ?_⟩
    repeat walk_at "s"
    refine x_yes (decide_eq_true hp.1) ?_
    repeat walk_at "s"
    refine ⟨dG, Wd.upt.str, .int 5, rfl, rfl, gG, ?_⟩
    repeat walk_at "s"
    rw [decide_eq_true hp.2]
    exact q H (Same.refl _)
  | skp v t =>
    have h5 : H la = some (.tup [.str Wd.skp.str, .int v, f t]) := a1'
    obtain ⟨uS, eqS⟩ := hS.is (z := Wd.skp.str) (v := 3) (.tail _ (.tail _ (.tail _ (.tail _ (.tail _ (.tail _ (.tail _ (.head _))))))))
    have gS := hS.get kd_SIZES (z := Wd.skp.str) (v := 3) (.tail _ (.tail _ (.tail _ (.tail _ (.tail _ (.tail _ (.tail _ (.head _))))))))
    repeat walk_at "s"
    refine ⟨Wd.skp.str, some uS, rfl, rfl, eqS, ?_⟩
    repeat walk_at "s"
    refine ⟨dS, Wd.skp.str, .int 3, rfl, rfl, gS, ?_⟩
    repeat walk_at "s"
    obtain ⟨uL, eqL⟩ := hL.is (z := Wd.skp.str) (v := (-3)) (.tail _ (.tail _ (.tail _ (.tail _ (.tail _ (.head _))))))
    have gL := hL.get kd_LEAST (z := Wd.skp.str) (v := (-3)) (.tail _ (.tail _ (.tail _ (.tail _ (.tail _ (.head _))))))
    have gG := hG.get kd_GREATEST (z := Wd.skp.str) (v := 4) (.tail _ (.tail _ (.tail _ (.tail _ (.tail _ (.head _))))))
    have hp : (-3) ≤ v ∧ v ≤ 4 := hpar
    refine ⟨Wd.skp.str, some uL, rfl, rfl, eqL, ?_⟩
    repeat walk_at "s"
    refine ⟨dL, Wd.skp.str, .int (-3), rfl, rfl, gL, ?_⟩
    repeat walk_at "s"
    refine x_yes (decide_eq_true hp.1) ?_
    repeat walk_at "s"
    refine ⟨dG, Wd.skp.str, .int 4, rfl, rfl, gG, ?_⟩
    repeat walk_at "s"
    rw [decide_eq_true hp.2]
    exact q H (Same.refl _)
  | cut =>
    have h5 : H la = some (.tup [.str Wd.cut.str]) := a1'
    obtain ⟨uS, eqS⟩ := hS.is (z := Wd.cut.str) (v := 1) (.tail _ (.tail _ (.tail _ (.tail _ (.tail _ (.tail _ (.tail _ (.tail _ (.head _)))))))))
    have gS := hS.get kd_SIZES (z := Wd.cut.str) (v := 1) (.tail _ (.tail _ (.tail _ (.tail _ (.tail _ (.tail _ (.tail _ (.tail _ (.head _)))))))))
    repeat walk_at "s"
    refine ⟨Wd.cut.str, some uS, rfl, rfl, eqS, ?_⟩
    repeat walk_at "s"
    refine ⟨dS, Wd.cut.str, .int 1, rfl, rfl, gS, ?_⟩
    repeat walk_at "s"
    refine ⟨Wd.cut.str, none, rfl, rfl, hN _ (.tail _ (.tail _ (.head _))), ?_⟩
    repeat walk_at "s"
    exact q H (Same.refl _)
  | rfs =>
    have h5 : H la = some (.tup [.str Wd.rfs.str]) := a1'
    obtain ⟨uS, eqS⟩ := hS.is (z := Wd.rfs.str) (v := 1) (.tail _ (.tail _ (.tail _ (.tail _ (.tail _ (.tail _ (.tail _ (.tail _ (.tail _ (.head _))))))))))
    have gS := hS.get kd_SIZES (z := Wd.rfs.str) (v := 1) (.tail _ (.tail _ (.tail _ (.tail _ (.tail _ (.tail _ (.tail _ (.tail _ (.tail _ (.head _))))))))))
    repeat walk_at "s"
    refine ⟨Wd.rfs.str, some uS, rfl, rfl, eqS, ?_⟩
    repeat walk_at "s"
    refine ⟨dS, Wd.rfs.str, .int 1, rfl, rfl, gS, ?_⟩
    repeat walk_at "s"
    refine ⟨Wd.rfs.str, none, rfl, rfl, hN _ (.tail _ (.tail _ (.tail _ (.head _)))), ?_⟩
    repeat walk_at "s"
    exact q H (Same.refl _)
end
end
end K21
end

section
set_option maxRecDepth 100000
set_option maxHeartbeats 4000000
namespace K21
open PySem PySem.Spec PyProof.Rows L2
noncomputable section
local macro_rules | `(tactic| walk_at "hp") => `(tactic| first
  | assumption
  | ((with_reducible refine' At.h ?q); (case q => assumption))
  | ((with_reducible refine' New.at_ ?q); (case q => assumption))
  | ((with_reducible refine' Chg.at_ ?q); (case q => assumption))
  | ((with_reducible refine' New.up ?n ?q); (case n => assumption); (case q => walk_at "hp"))
  | ((with_reducible refine' Same.up ?n ?q); (case n => assumption); (case q => walk_at "hp")))
local macro_rules | `(tactic| walk_at "sz") => `(tactic| first | exact Nat.le_of_ble_eq_true rfl | assumption | omega)
local macro_rules | `(tactic| walk_at "i") => `(tactic| first
  | with_reducible refine' x_I0 ?_
  | ((with_reducible refine' x_I ?c ?_); (case c => first | assumption | (show (_ : Int) ≠ 0; omega) | exact .inr ⟨by decide, by decide⟩ | exact .inl ⟨by decide, by decide⟩ | (refine ⟨?_, ?_⟩ <;> first | decide | omega)))
  | with_reducible refine' x_eqI ?_
  | with_reducible refine' x_neI ?_
  | with_reducible refine' x_eqS ?_
  | with_reducible refine' x_neS ?_
  | with_reducible refine' x_isN ?_
  | with_reducible refine' x_notN ?_
  | with_reducible refine' x_U ?_
  | with_reducible refine' x_int ?_
  | with_reducible refine' x_intB ?_
  | with_reducible refine' x_min2 ?_
  | with_reducible refine' x_max2 ?_
  | ((with_reducible refine' x_ixLh ?h ?v ?_); (case h => walk_at "hp"); (case v => first | exact rfl | assumption))
  | ((with_reducible refine' x_ixTh ?h ?v ?_); (case h => walk_at "hp"); (case v => first | exact rfl | assumption))
  | ((with_reducible refine' x_lenL ?h ?_); (case h => walk_at "hp"))
  | ((with_reducible refine' x_lenT ?h ?_); (case h => walk_at "hp"))
  | ((with_reducible refine' x_gtuph ?h ?l ?_); (case h => walk_at "hp"); (case l => exact rfl))
  | ((with_reducible refine' x_BmAh ?h ?_); (case h => walk_at "hp"))
  | ((with_reducible refine' x_BmA0h ?h ?_); (case h => walk_at "hp"))
  | ((with_reducible refine' x_inStr ?h ?_); (case h => walk_at "hp"))
  | ((with_reducible refine' x_ninStr ?h ?_); (case h => walk_at "hp"))
  | ((with_reducible refine' x_inInt ?h ?_); (case h => walk_at "hp"))
  | ((with_reducible refine' x_ninInt ?h ?_); (case h => walk_at "hp"))
  | ((with_reducible refine' x_inL ?h ?f ?g ?_); (case h => walk_at "hp"); (case f => exact rfl); (case g => first | exact rfl | assumption))
  | ((with_reducible refine' x_inR ?h ?f ?g ?_); (case h => assumption); (case f => exact rfl); (case g => exact rfl))
  | ((with_reducible refine' x_inT ?h ?f ?g ?_); (case h => walk_at "hp"); (case f => exact rfl); (case g => first | exact rfl | assumption))
  | ((with_reducible refine' x_notInL ?h ?f ?g ?_); (case h => walk_at "hp"); (case f => exact rfl); (case g => first | exact rfl | assumption))
  | ((with_reducible refine' x_setL ?h ?j ?_); (case h => walk_at "hp"); (case j => first | exact rfl | assumption))
  | ((with_reducible refine' x_append ?h ?l ?_); (case h => walk_at "hp"); (case l => walk_at "sz"))
  | ((with_reducible refine' x_neNil ?h ?g ?_); (case h => walk_at "hp"); (case g => walk_at "hp"))
  | ((with_reducible refine' x_eqNil ?h ?g ?_); (case h => walk_at "hp"); (case g => walk_at "hp"))
  | ((with_reducible refine' x_DgA ?h ?v ?_); (case h => walk_at "hp"); (case v => first | exact stK_at _ _ _ | exact bkK_first _ _ | exact bkK_lines _ _ | exact stK_kept _ _ _ | exact stK_left _ _ _ | assumption))
  | ((with_reducible refine' x_FldA ?h ?c ?n ?l ?_); (case h => walk_at "hp"); (case c => assumption); (case n => assumption); (case l => first | exact rfl | assumption))
  | ((with_reducible refine' x_truL ?h ?_); (case h => walk_at "hp"))
  | ((with_reducible refine' x_truT ?h ?_); (case h => walk_at "hp"))
  | ((with_reducible refine' x_kTupL ?h ?_); (case h => walk_at "hp"))
  | ((with_reducible refine' x_kTupT ?h ?_); (case h => walk_at "hp"))
  | ((with_reducible refine' x_idx ?h ?n ?x ?_); (case h => walk_at "hp"); (case n => assumption); (case x => assumption))
  | ((with_reducible refine' x_SFldA ?h ?c ?n ?l ?_); (case h => walk_at "hp"); (case c => assumption); (case n => assumption); (case l => exact Nat.le_of_ble_eq_true rfl))
  | with_reducible refine' x_MkA ?_
  | ((with_reducible refine' x_lsL ?h ?_); (case h => walk_at "hp"))
  | ((with_reducible refine' x_lsT ?h ?_); (case h => walk_at "hp"))
  | with_reducible refine' x_CmA ?_
  | with_reducible refine' x_inSg ?_
  | ((with_reducible refine' x_lenS ?h ?_); (case h => assumption))
  | ((with_reducible refine' x_DspS ?h ?_); (case h => walk_at "hp"))
  | ((with_reducible refine' x_AlT ?h ?_); (case h => walk_at "sz"))
  | ((with_reducible refine' x_AlL ?h ?_); (case h => walk_at "sz"))
  | ((with_reducible refine' x_Rg1 ?a ?b ?_); (case a => omega); (case b => omega))
  | ((with_reducible refine' x_Rg2 ?a ?b ?c ?d ?_); (case a => omega); (case b => omega); (case c => omega); (case d => omega))
  | with_reducible refine' x_AlO ?_)
local macro_rules | `(tactic| walk_at "s") => `(tactic| first
  | with_reducible refine' x_seq ?_
  | with_reducible refine' x_asg ?_
  | with_reducible refine' x_gname ?_
  | ((with_reducible refine' x_var ?h ?_); (case h => exact rfl))
  | with_reducible refine' x_c ?_
  | with_reducible refine' x_op ?_
  | with_reducible refine' x_cons ?_
  | with_reducible refine' x_nil ?_
  | with_reducible refine' x_cb ?_
  | with_reducible refine' x_ret ?_
  | with_reducible refine' x_ifS ?_
  | with_reducible refine' x_test ?_
  | with_reducible refine' x_B ?_
  | with_reducible refine' x_bl ?_
  | with_reducible refine' x_if ?_
  | with_reducible refine' x_call ?_
  | with_reducible refine' x_tup ?_
  | with_reducible refine' x_lst ?_
  | with_reducible refine' x_gcons ?_
  | with_reducible refine' x_gnil ?_
  | with_reducible refine' x_gsub ?_
  | with_reducible refine' x_next ?_
  | with_reducible refine' x_drop ?_
  | with_reducible refine' x_and ?_
  | with_reducible refine' x_or ?_
  | with_reducible refine' x_not ?_
  | with_reducible refine' x_andV ?_
  | with_reducible refine' x_orV ?_
  | with_reducible refine' x_un ?_
  | with_reducible refine' x_chain ?_
  | with_reducible refine' x_sfld ?_
  | with_reducible refine' x_par ?_
  | with_reducible refine' x_par2 ?_
  | with_reducible refine' x_par3 ?_
  | with_reducible refine' x_par33 ?_
  | with_reducible refine' x_fld ?_
  | with_reducible refine' x_meth ?_
  | with_reducible refine' x_bm ?_
  | with_reducible refine' x_bm0 ?_
  | with_reducible refine' x_forL ?_
  | with_reducible refine' x_forT ?_
  | with_reducible refine' x_forR1 ?_
  | with_reducible refine' x_forET ?_
  | with_reducible refine' x_thn ?_
  | with_reducible refine' x_lcS ?_
  | with_reducible refine' x_cm ?_
  | ((with_reducible refine' x_mkv ?h ?_); (case h => exact rfl))
  | with_reducible refine' x_mk ?_
  | with_reducible refine' x_forEL ?_
  | with_reducible refine' x_forR2 ?_
  | with_reducible refine' x_lcL ?_
  | with_reducible refine' x_lcT ?_
  | with_reducible refine' x_lcR1 ?_
  | with_reducible refine' x_lcR2 ?_
  | with_reducible refine' x_dnew ?_
  | with_reducible refine' x_retN ?_
  | with_reducible refine' x_ff ?_
  | with_reducible refine' x_lrg1 ?_
  | with_reducible refine' x_disp ?_
  | with_reducible refine' x_pnil ?_
  | with_reducible refine' x_pcons ?_
  | with_reducible refine' x_dget ?_
  | with_reducible refine' x_dput ?_
  | with_reducible refine' x_dnewN ?_
  | with_reducible refine' x_nin ?_
  | with_reducible refine' x_nget ?_
  | with_reducible refine' x_nput ?_
  | ((with_reducible refine' x_yes ?e ?_); (case e => first | decide +kernel | exact not_int_non _ | exact not_str_non _))
  | ((with_reducible refine' x_no ?e ?_); (case e => first | decide +kernel | exact int_non _ | exact str_non _ | exact rfl))
  | with_reducible refine' x_lrg2 ?_
  | with_reducible refine' x_tt ?_
  | with_reducible refine' x_break ?_
  | walk_at "i")

def Nsctidy_line : List Str := ["line", "pair"]
theorem sctidy_line : FnScope Nsctidy_line ["line"] (defScope (topS 22)) := ⟨rfl, rfl, rfl, by decide +kernel, rfl, by decide +kernel, by decide +kernel⟩
def Nsctargets_of : List Str := ["line", "value", "name"]
theorem sctargets_of : FnScope Nsctargets_of ["line"] (defScope (topS 23)) := ⟨rfl, rfl, rfl, by decide +kernel, rfl, by decide +kernel, by decide +kernel⟩
section
variable {P : Program} {w : World} {K : PySem.W.Frag} {mg : Str → Option Value} {base : Heap}
theorem New.atS {S : Addr → Prop} {H H' : Hp} {a : Addr} {o : HO} (n : New H H' a o) (h : ∀ b, S b → H b ≠ none) : At S H' a o := ⟨n.at_, fun z => h a z n.fresh⟩
/-- a line in tuples -/
def spTidy : Sp := fun vs H Q _ => ∃ (S : Addr → Prop) (la : Addr) (l : Ln) (f : Nat → V), vs = [.ref la] ∧ LnAt S H f false la l ∧ l.par ∧ (∀ b, S b → H b ≠ none) ∧ ∀ (a : Addr) (H' : Hp), Same H H' → LnAt S H' f true a l → Q (.ref a) H'
theorem ok_tidy {f : Addr} {fd : FuncData} (F : L2.Fun K "tidy_line" "tidy_line" (topS 22) f fd) (m : mg "tidy_line" = some (.ref f)) (b : Binds K fd ["line"] []) (G : Gm K mg) : C8.Cal P w K mg base 1 "tidy_line" spTidy [] := by
  refine calN F m b sctidy_line (fun vs H Q E h => ?_) (fun cdv A outer s H vs Q E hr h => ?_)
  · obtain ⟨S, la, l, f, rfl, _⟩ := h
    rfl
  obtain ⟨S, la, l, f, rfl, ⟨wa, a1, a2⟩, hpar, hS, q⟩ := h
  refine ⟨_, (pss_cons (ps_if (pt_cmpR op_eq (pe_ix ix_tup (pv 0) pe_int (fun _ _ => rfl)) pe_str (nomark _)) (pss_one (ps_ret (pe_tup (pa_cons pe_str (pa_cons (pe_tupleOf rfl G.tuple (pe_lc (own := [("pair", 1)]) rfl sctidy_line.nd (pi_list (pe_ix ix_tup (pv 0) pe_int (fun _ _ => rfl))) (blkOk_by (own := [("pair", 1)]) (N := Nsctidy_line) (sc := defScope (topS 22)) (by decide +kernel)) (fun _ _ _ _ _ => (pg_name (i := 1) sctidy_line.nd rfl (Or.inl rfl))) (fun _ _ _ _ _ => pts_nil) (fun _ _ _ _ _ => (b_tupleOf (K := K) rfl rfl G.tuple (pv 1))))) (pa_cons (pe_ix ix_tup (pv 0) pe_int (fun _ _ => rfl)) pa_nil)))))) pss_nil) (pss_one (ps_ret (pe_tupleOf rfl G.tuple (pv 0))))), ?_⟩
  rw [show L2.start Nsctidy_line [.ref la] = [some (.ref la), none] from rfl]; try simp only [cxK, cxK2, cxP, cxW, cxPn, cxWn]
  have a1' := a1.h
  have fin : (∀ ws o, l ≠ .cas ws o) → Q (.ref la) H := fun hn => q la H (Same.refl _) ⟨wa, a1, fun ws o e => absurd e (hn ws o)⟩
  cases l with
  | cas ws o =>
    have h5 : H la = some (.tup [.str Wd.cas.str, .ref wa, f o]) := a1'
    obtain ⟨rs, g1, g2⟩ := a2 ws o rfl
    have g1' : H wa = some (.lst (rs.map V.ref)) := g1.h
    have hws : ws.length ≤ 6 := hpar.2.2
    have hlen := g2.1
    repeat walk_at "s"
    refine x_LcLF g1' (by rw [List.length_map]; omega) (fun _ => true) (fun i => .ref (rs.getD i 0)) ?_ ?_
    · intro i x H1 hx s1 R1 kR
      obtain ⟨r, hr', rfl⟩ := map_some hx
      obtain ⟨y, hy⟩ := get_some (l := ws) (i := i) (by have := get_lt hr'; omega)
      have h6 : H1 r = some (.tup [.int y.1, f y.2]) := s1 _ _ (g2.2 i r y hr' hy).h
      have ey : rs.getD i 0 = r := by rw [List.getD_eq_getElem?_getD, hr'] <;> rfl
      repeat walk_at "s"
      refine kR _ rfl EvB.yes fun _ H2 s2 Q2 k2 => ?_
      have h62 := s2 _ _ h6
      have k3 := k2 _ (Same.refl _)
      rw [ey] at k3
      repeat walk_at "s"
      exact k3
    intro D H1 n1
    have e : gv (rs.map V.ref).length (fun _ => true) (fun i => V.ref (rs.getD i 0)) = rs.map V.ref := by rw [gv_all, List.length_map]; exact range_map rs 0 V.ref
    rw [e] at n1
    have hD := n1.at_
    have h51 := n1.up h5
    repeat walk_at "s"
    intro w2 H2 n2
    have h52 := n2.up h51
    repeat walk_at "s"
    intro a H3 n3
    have hS1 : ∀ b, S b → H1 b ≠ none := fun b hb z => by
      obtain ⟨o', ho⟩ := Option.ne_none_iff_exists'.mp (hS b hb)
      rw [n1.up ho] at z
      exact nomatch z
    have hS2 : ∀ b, S b → H2 b ≠ none := fun b hb z => by
      obtain ⟨o', ho⟩ := Option.ne_none_iff_exists'.mp (hS1 b hb)
      rw [n2.up ho] at z
      exact nomatch z
    have s3 : Same H H3 := (n1.same.trans n2.same).trans n3.same
    refine q a H3 s3 ⟨w2, n3.atS hS2, fun ws' o' e => ?_⟩
    cases e
    exact ⟨rs, (n2.atS hS1).up n3.kp, g2.up (Kp.same s3)⟩
  | tak t =>
    have h5 : H la = some (.tup [.str Wd.tak.str, f t]) := a1'
    repeat walk_at "s"
    exact fin nofun
  | rst v t =>
    have h5 : H la = some (.tup [.str Wd.rst.str, .int v, f t]) := a1'
    repeat walk_at "s"
    exact fin nofun
  | cap v t =>
    have h5 : H la = some (.tup [.str Wd.cap.str, .int v, f t]) := a1'
    repeat walk_at "s"
    exact fin nofun
  | jmp v t =>
    have h5 : H la = some (.tup [.str Wd.jmp.str, .int v, f t]) := a1'
    repeat walk_at "s"
    exact fin nofun
  | set v t =>
    have h5 : H la = some (.tup [.str Wd.set.str, .int v, f t]) := a1'
    repeat walk_at "s"
    exact fin nofun
  | upt v t u =>
    have h5 : H la = some (.tup [.str Wd.upt.str, .int v, f t, f u]) := a1'
    repeat walk_at "s"
    exact fin nofun
  | skp v t =>
    have h5 : H la = some (.tup [.str Wd.skp.str, .int v, f t]) := a1'
    repeat walk_at "s"
    exact fin nofun
  | cut =>
    have h5 : H la = some (.tup [.str Wd.cut.str]) := a1'
    repeat walk_at "s"
    exact fin nofun
  | rfs =>
    have h5 : H la = some (.tup [.str Wd.rfs.str]) := a1'
    repeat walk_at "s"
    exact fin nofun
/-- where a line may go -/
def spTg : Sp := fun vs H Q _ => ∃ (la : Addr) (l : Ln) (f : Nat → V) (tu : Bool), vs = [.ref la] ∧ LnAt No H f tu la l ∧ l.par ∧ (tu = false ∨ ∀ ws o, l ≠ .cas ws o) ∧ ∀ (a : Addr) (H' : Hp), Same H H' → H a = none → H' a = some (.lst (l.tg.map f)) → Q (.ref a) H'
theorem ok_tg {f : Addr} {fd : FuncData} (F : L2.Fun K "targets_of" "targets_of" (topS 23) f fd) (m : mg "targets_of" = some (.ref f)) (b : Binds K fd ["line"] []) (G : Gm K mg) : C8.Cal P w K mg base 1 "targets_of" spTg [] := by
  refine calN F m b sctargets_of (fun vs H Q E h => ?_) (fun cdv A outer s H vs Q E hr h => ?_)
  · obtain ⟨la, l, f, tu, rfl, _⟩ := h
    rfl
  obtain ⟨la, l, f, tu, rfl, ⟨wa, a1, a2⟩, hpar, htu, q⟩ := h
  refine ⟨_, (pss_cons (ps_if (pt_cmpR op_in_seq (pe_ix ix_tup (pv 0) pe_int (fun _ _ => rfl)) (pe_tup (pa_cons pe_str (pa_cons pe_str pa_nil))) (by rfl)) (pss_one (ps_ret (pe_lst pa_nil))) pss_nil) (pss_cons (ps_if (pt_cmpR op_eq (pe_ix ix_tup (pv 0) pe_int (fun _ _ => rfl)) pe_str (nomark _)) (pss_one (ps_ret (pe_op k_cat (pe_lc (own := [("value", 1), ("name", 2)]) rfl sctargets_of.nd (pi_list (pe_ix ix_tup (pv 0) pe_int (fun _ _ => rfl))) (blkOk_by (own := [("value", 1), ("name", 2)]) (N := Nsctargets_of) (sc := defScope (topS 23)) (by decide +kernel)) (fun _ _ _ _ _ => (b_gtup (K := K) (n := 2) rfl rfl (pgs_cons (pg_name (i := 1) sctargets_of.nd rfl (Or.inl rfl)) (pgs_cons (pg_name (i := 2) sctargets_of.nd rfl (Or.inl rfl)) pgs_nil)))) (fun _ _ _ _ _ => pts_nil) (fun _ _ _ _ _ => (pv 2))) (pe_lst (pa_cons (pe_ix ix_tup (pv 0) pe_int (fun _ _ => rfl)) pa_nil))))) pss_nil) (pss_cons (ps_if (pt_cmpR op_eq (pe_ix ix_tup (pv 0) pe_int (fun _ _ => rfl)) pe_str (nomark _)) (pss_one (ps_ret (pe_lst (pa_cons (pe_ix ix_tup (pv 0) pe_int (fun _ _ => rfl)) (pa_cons (pe_ix ix_tup (pv 0) pe_int (fun _ _ => rfl)) pa_nil))))) pss_nil) (pss_one (ps_ret (pe_lst (pa_cons (pe_ix ix_tup (pv 0) (pe_op op_sub (pe_callB k_len (by rfl) G.len PySem.boot_len (pa_cons (pv 0) pa_nil)) pe_int) (fun _ _ => rfl)) pa_nil))))))), ?_⟩
  rw [show L2.start Nsctargets_of [.ref la] = [some (.ref la), none, none] from rfl]; try simp only [cxK, cxK2, cxP, cxW, cxPn, cxWn]
  have a1' := a1.h
  have fin : ∀ (H1 : Hp) (a : Addr) (H2 : Hp), Same H H1 → New H1 H2 a (.lst (l.tg.map f)) → Q (.ref a) H2 := fun H1 a H2 s1 n2 => q a H2 (s1.trans n2.same) (by
    cases hz : H a with
    | none => rfl
    | some o => exact absurd (s1 _ _ hz) (by rw [n2.fresh]; exact nofun)) n2.at_
  cases l with
  | cas ws o =>
    have h5 : H la = some (.tup [.str Wd.cas.str, .ref wa, f o]) := a1'
    have htu : tu = false := by
      rcases htu with e | e
      · exact e
      · exact absurd rfl (e ws o)
    subst htu
    obtain ⟨rs, g1, g2⟩ := a2 ws o rfl
    have g1' : H wa = some (.lst (rs.map V.ref)) := g1.h
    have hws : ws.length ≤ 6 := hpar.2.2
    have hlen := g2.1
    repeat walk_at "s"
    intro u0 H0 n0
    have g10 := n0.up g1'
    have h50 := n0.up h5
    repeat walk_at "s"
    refine x_LcLF g10 (by rw [List.length_map]; omega) (fun _ => true) (fun i => f (ws.getD i (0, 0)).2) ?_ ?_
    · intro i x H1 hx s1 R1 kR
      obtain ⟨r, hr', rfl⟩ := map_some hx
      obtain ⟨y, hy⟩ := get_some (l := ws) (i := i) (by have := get_lt hr'; omega)
      have h6 : H1 r = some (.tup [.int y.1, f y.2]) := s1 _ _ (n0.up (g2.2 i r y hr' hy).h)
      have ey : ws.getD i (0, 0) = y := by rw [List.getD_eq_getElem?_getD, hy] <;> rfl
      repeat walk_at "s"
      refine kR _ rfl EvB.yes fun _ H2 s2 Q2 k2 => ?_
      have k3 := k2 _ (Same.refl _)
      rw [ey] at k3
      repeat walk_at "s"
      exact k3
    intro D H1 n1
    have e : gv (rs.map V.ref).length (fun _ => true) (fun i => f (ws.getD i (0, 0)).2) = ws.map fun x => f x.2 := by rw [gv_all, List.length_map, hlen]; exact range_map ws (0, 0) fun x => f x.2
    rw [e] at n1
    have h51 := n1.up h50
    have hD := n1.at_
    repeat walk_at "s"
    intro p H2 n2
    refine x_cat (n2.up hD) n2.at_ (by rw [List.length_map, sizeLine_eq]; show ws.length + 1 ≤ _; omega) fun a H3 n3 => ?_
    have e2 : (ws.map fun x => f x.2) ++ [f o] = (Ln.cas ws o).tg.map f := by
      show _ = (ws.map (·.2) ++ [o]).map f
      rw [List.map_append, List.map_map] <;> rfl
    rw [e2] at n3
    repeat walk_at "s"
    exact fin H2 a H3 ((n0.same.trans n1.same).trans n2.same) n3
  | tak t =>
    have h5 : H la = some (.tup [.str Wd.tak.str, f t]) := a1'
    repeat walk_at "s"
    intro u0 H0 n0
    have h50 := n0.up h5
    repeat walk_at "s"
    intro a H1 n1
    repeat walk_at "s"
    exact fin H0 a H1 n0.same n1
  | rst v t =>
    have h5 : H la = some (.tup [.str Wd.rst.str, .int v, f t]) := a1'
    repeat walk_at "s"
    intro u0 H0 n0
    have h50 := n0.up h5
    repeat walk_at "s"
    intro a H1 n1
    repeat walk_at "s"
    exact fin H0 a H1 n0.same n1
  | cap v t =>
    have h5 : H la = some (.tup [.str Wd.cap.str, .int v, f t]) := a1'
    repeat walk_at "s"
    intro u0 H0 n0
    have h50 := n0.up h5
    repeat walk_at "s"
    intro a H1 n1
    repeat walk_at "s"
    exact fin H0 a H1 n0.same n1
  | jmp v t =>
    have h5 : H la = some (.tup [.str Wd.jmp.str, .int v, f t]) := a1'
    repeat walk_at "s"
    intro u0 H0 n0
    have h50 := n0.up h5
    repeat walk_at "s"
    intro a H1 n1
    repeat walk_at "s"
    exact fin H0 a H1 n0.same n1
  | set v t =>
    have h5 : H la = some (.tup [.str Wd.set.str, .int v, f t]) := a1'
    repeat walk_at "s"
    intro u0 H0 n0
    have h50 := n0.up h5
    repeat walk_at "s"
    intro a H1 n1
    repeat walk_at "s"
    exact fin H0 a H1 n0.same n1
  | upt v t u =>
    have h5 : H la = some (.tup [.str Wd.upt.str, .int v, f t, f u]) := a1'
    repeat walk_at "s"
    intro u0 H0 n0
    have h50 := n0.up h5
    repeat walk_at "s"
    intro a H1 n1
    repeat walk_at "s"
    exact fin H0 a H1 n0.same n1
  | skp v t =>
    have h5 : H la = some (.tup [.str Wd.skp.str, .int v, f t]) := a1'
    repeat walk_at "s"
    intro u0 H0 n0
    have h50 := n0.up h5
    repeat walk_at "s"
    intro a H1 n1
    repeat walk_at "s"
    exact fin H0 a H1 n0.same n1
  | cut =>
    have h5 : H la = some (.tup [.str Wd.cut.str]) := a1'
    repeat walk_at "s"
    intro u0 H0 n0
    have h50 := n0.up h5
    repeat walk_at "s"
    intro a H1 n1
    repeat walk_at "s"
    exact fin H0 a H1 n0.same n1
  | rfs =>
    have h5 : H la = some (.tup [.str Wd.rfs.str]) := a1'
    repeat walk_at "s"
    intro u0 H0 n0
    have h50 := n0.up h5
    repeat walk_at "s"
    intro a H1 n1
    repeat walk_at "s"
    exact fin H0 a H1 n0.same n1
end
end
end K21
end

section
set_option maxRecDepth 100000
set_option maxHeartbeats 4000000
namespace K21
open PySem PySem.Spec PyProof.Rows L2
noncomputable section
local macro_rules | `(tactic| walk_at "hp") => `(tactic| first
  | assumption
  | ((with_reducible refine' At.h ?q); (case q => assumption))
  | ((with_reducible refine' New.at_ ?q); (case q => assumption))
  | ((with_reducible refine' Chg.at_ ?q); (case q => assumption))
  | ((with_reducible refine' New.up ?n ?q); (case n => assumption); (case q => walk_at "hp"))
  | ((with_reducible refine' Same.up ?n ?q); (case n => assumption); (case q => walk_at "hp")))
local macro_rules | `(tactic| walk_at "sz") => `(tactic| first | exact Nat.le_of_ble_eq_true rfl | assumption | omega)
local macro_rules | `(tactic| walk_at "i") => `(tactic| first
  | with_reducible refine' x_I0 ?_
  | ((with_reducible refine' x_I ?c ?_); (case c => first | assumption | (show (_ : Int) ≠ 0; omega) | exact .inr ⟨by decide, by decide⟩ | exact .inl ⟨by decide, by decide⟩ | (refine ⟨?_, ?_⟩ <;> first | decide | omega)))
  | with_reducible refine' x_eqI ?_
  | with_reducible refine' x_neI ?_
  | with_reducible refine' x_eqS ?_
  | with_reducible refine' x_neS ?_
  | with_reducible refine' x_isN ?_
  | with_reducible refine' x_notN ?_
  | with_reducible refine' x_U ?_
  | with_reducible refine' x_int ?_
  | with_reducible refine' x_intB ?_
  | with_reducible refine' x_min2 ?_
  | with_reducible refine' x_max2 ?_
  | ((with_reducible refine' x_ixLh ?h ?v ?_); (case h => walk_at "hp"); (case v => first | exact rfl | assumption))
  | ((with_reducible refine' x_ixTh ?h ?v ?_); (case h => walk_at "hp"); (case v => first | exact rfl | assumption))
  | ((with_reducible refine' x_lenL ?h ?_); (case h => walk_at "hp"))
  | ((with_reducible refine' x_lenT ?h ?_); (case h => walk_at "hp"))
  | ((with_reducible refine' x_gtuph ?h ?l ?_); (case h => walk_at "hp"); (case l => exact rfl))
  | ((with_reducible refine' x_BmAh ?h ?_); (case h => walk_at "hp"))
  | ((with_reducible refine' x_BmA0h ?h ?_); (case h => walk_at "hp"))
  | ((with_reducible refine' x_inStr ?h ?_); (case h => walk_at "hp"))
  | ((with_reducible refine' x_ninStr ?h ?_); (case h => walk_at "hp"))
  | ((with_reducible refine' x_inInt ?h ?_); (case h => walk_at "hp"))
  | ((with_reducible refine' x_ninInt ?h ?_); (case h => walk_at "hp"))
  | ((with_reducible refine' x_inL ?h ?f ?g ?_); (case h => walk_at "hp"); (case f => exact rfl); (case g => first | exact rfl | assumption))
  | ((with_reducible refine' x_inR ?h ?f ?g ?_); (case h => assumption); (case f => exact rfl); (case g => exact rfl))
  | ((with_reducible refine' x_inT ?h ?f ?g ?_); (case h => walk_at "hp"); (case f => exact rfl); (case g => first | exact rfl | assumption))
  | ((with_reducible refine' x_notInL ?h ?f ?g ?_); (case h => walk_at "hp"); (case f => exact rfl); (case g => first | exact rfl | assumption))
  | ((with_reducible refine' x_setL ?h ?j ?_); (case h => walk_at "hp"); (case j => first | exact rfl | assumption))
  | ((with_reducible refine' x_append ?h ?l ?_); (case h => walk_at "hp"); (case l => walk_at "sz"))
  | ((with_reducible refine' x_neNil ?h ?g ?_); (case h => walk_at "hp"); (case g => walk_at "hp"))
  | ((with_reducible refine' x_eqNil ?h ?g ?_); (case h => walk_at "hp"); (case g => walk_at "hp"))
  | ((with_reducible refine' x_DgA ?h ?v ?_); (case h => walk_at "hp"); (case v => first | exact stK_at _ _ _ | exact bkK_first _ _ | exact bkK_lines _ _ | exact stK_kept _ _ _ | exact stK_left _ _ _ | assumption))
  | ((with_reducible refine' x_FldA ?h ?c ?n ?l ?_); (case h => walk_at "hp"); (case c => assumption); (case n => assumption); (case l => first | exact rfl | assumption))
  | ((with_reducible refine' x_truL ?h ?_); (case h => walk_at "hp"))
  | ((with_reducible refine' x_truT ?h ?_); (case h => walk_at "hp"))
  | ((with_reducible refine' x_kTupL ?h ?_); (case h => walk_at "hp"))
  | ((with_reducible refine' x_kTupT ?h ?_); (case h => walk_at "hp"))
  | ((with_reducible refine' x_idx ?h ?n ?x ?_); (case h => walk_at "hp"); (case n => assumption); (case x => assumption))
  | ((with_reducible refine' x_SFldA ?h ?c ?n ?l ?_); (case h => walk_at "hp"); (case c => assumption); (case n => assumption); (case l => exact Nat.le_of_ble_eq_true rfl))
  | with_reducible refine' x_MkA ?_
  | ((with_reducible refine' x_lsL ?h ?_); (case h => walk_at "hp"))
  | ((with_reducible refine' x_lsT ?h ?_); (case h => walk_at "hp"))
  | with_reducible refine' x_CmA ?_
  | with_reducible refine' x_inSg ?_
  | ((with_reducible refine' x_lenS ?h ?_); (case h => assumption))
  | ((with_reducible refine' x_DspS ?h ?_); (case h => walk_at "hp"))
  | ((with_reducible refine' x_AlT ?h ?_); (case h => walk_at "sz"))
  | ((with_reducible refine' x_AlL ?h ?_); (case h => walk_at "sz"))
  | ((with_reducible refine' x_Rg1 ?a ?b ?_); (case a => omega); (case b => omega))
  | ((with_reducible refine' x_Rg2 ?a ?b ?c ?d ?_); (case a => omega); (case b => omega); (case c => omega); (case d => omega))
  | with_reducible refine' x_AlO ?_)
local macro_rules | `(tactic| walk_at "s") => `(tactic| first
  | with_reducible refine' x_seq ?_
  | with_reducible refine' x_asg ?_
  | with_reducible refine' x_gname ?_
  | ((with_reducible refine' x_var ?h ?_); (case h => exact rfl))
  | with_reducible refine' x_c ?_
  | with_reducible refine' x_op ?_
  | with_reducible refine' x_cons ?_
  | with_reducible refine' x_nil ?_
  | with_reducible refine' x_cb ?_
  | with_reducible refine' x_ret ?_
  | with_reducible refine' x_ifS ?_
  | with_reducible refine' x_test ?_
  | with_reducible refine' x_B ?_
  | with_reducible refine' x_bl ?_
  | with_reducible refine' x_if ?_
  | with_reducible refine' x_call ?_
  | with_reducible refine' x_tup ?_
  | with_reducible refine' x_lst ?_
  | with_reducible refine' x_gcons ?_
  | with_reducible refine' x_gnil ?_
  | with_reducible refine' x_gsub ?_
  | with_reducible refine' x_next ?_
  | with_reducible refine' x_drop ?_
  | with_reducible refine' x_and ?_
  | with_reducible refine' x_or ?_
  | with_reducible refine' x_not ?_
  | with_reducible refine' x_andV ?_
  | with_reducible refine' x_orV ?_
  | with_reducible refine' x_un ?_
  | with_reducible refine' x_chain ?_
  | with_reducible refine' x_sfld ?_
  | with_reducible refine' x_par ?_
  | with_reducible refine' x_par2 ?_
  | with_reducible refine' x_par3 ?_
  | with_reducible refine' x_par33 ?_
  | with_reducible refine' x_fld ?_
  | with_reducible refine' x_meth ?_
  | with_reducible refine' x_bm ?_
  | with_reducible refine' x_bm0 ?_
  | with_reducible refine' x_forL ?_
  | with_reducible refine' x_forT ?_
  | with_reducible refine' x_forR1 ?_
  | with_reducible refine' x_forET ?_
  | with_reducible refine' x_thn ?_
  | with_reducible refine' x_lcS ?_
  | with_reducible refine' x_cm ?_
  | ((with_reducible refine' x_mkv ?h ?_); (case h => exact rfl))
  | with_reducible refine' x_mk ?_
  | with_reducible refine' x_forEL ?_
  | with_reducible refine' x_forR2 ?_
  | with_reducible refine' x_lcL ?_
  | with_reducible refine' x_lcT ?_
  | with_reducible refine' x_lcR1 ?_
  | with_reducible refine' x_lcR2 ?_
  | with_reducible refine' x_dnew ?_
  | with_reducible refine' x_retN ?_
  | with_reducible refine' x_ff ?_
  | with_reducible refine' x_lrg1 ?_
  | with_reducible refine' x_disp ?_
  | with_reducible refine' x_pnil ?_
  | with_reducible refine' x_pcons ?_
  | with_reducible refine' x_dget ?_
  | with_reducible refine' x_dput ?_
  | with_reducible refine' x_dnewN ?_
  | with_reducible refine' x_nin ?_
  | with_reducible refine' x_nget ?_
  | with_reducible refine' x_nput ?_
  | ((with_reducible refine' x_yes ?e ?_); (case e => first | decide +kernel | exact not_int_non _ | exact not_str_non _))
  | ((with_reducible refine' x_no ?e ?_); (case e => first | decide +kernel | exact int_non _ | exact str_non _ | exact rfl))
  | with_reducible refine' x_lrg2 ?_
  | with_reducible refine' x_tt ?_
  | with_reducible refine' x_break ?_
  | walk_at "i")

def Nsccheck_lines : List Str := ["lines", "names", "number", "name", "line", "target"]
theorem sccheck_lines : FnScope Nsccheck_lines ["lines"] (defScope (topS 24)) := ⟨rfl, rfl, rfl, by decide +kernel, rfl, by decide +kernel, by decide +kernel⟩
theorem gv_none (n : Nat) (v : Nat → V) : gv n (fun _ => false) v = [] := by
  unfold gv
  rw [List.filter_eq_nil_iff.mpr (fun _ _ => by simp)] <;> rfl
theorem take_not {α : Type} {l : List α} (nd : l.Nodup) {j : Nat} {x : α} (h : l[j]? = some x) : x ∉ l.take j := fun hm => by
  obtain ⟨i, hi, e⟩ := List.mem_iff_getElem.mp hm
  rw [List.getElem_take] at e
  have pw := List.pairwise_iff_getElem.mp nd
  obtain ⟨g1, g2⟩ := List.getElem?_eq_some_iff.mp h
  have hi' : i < j := by rw [List.length_take] at hi; omega
  exact pw i j (by omega) g1 hi' (e.trans g2.symm)
section
variable {P : Program} {w : World} {K : PySem.W.Frag} {mg : Str → Option Value} {base : Heap}
def spCkl : Sp := fun vs H Q _ => ∃ (a : Addr) (xs : List Addr) (R : Rd), vs = [.ref a] ∧ H a = some (.lst (xs.map V.ref)) ∧ LnsAt No H (nmV R.nm) false xs R ∧ WF R ∧ ∀ H', Same H H' → Q .non H'
theorem ok_ckl {f : Addr} {fd : FuncData} (F : L2.Fun K "check_lines" "check_lines" (topS 24) f fd) (m : mg "check_lines" = some (.ref f)) (b : Binds K fd ["lines"] []) (G : Gm K mg) (c_fits_name : C8.Cal P w K mg base 1 "fits_name" spFname []) (c_fits_line : C8.Cal P w K mg base 2 "fits_line" spFline [])
    (c_targets_of : C8.Cal P w K mg base 1 "targets_of" spTg []) : C8.Cal P w K mg base 3 "check_lines" spCkl [] := by
  refine calN F m b sccheck_lines (fun vs H Q E h => ?_) (fun cdv A outer s H vs Q E hr h => ?_)
  · obtain ⟨a, xs, R, rfl, _⟩ := h
    rfl
  obtain ⟨a, xs, R, rfl, ha, hxs, wf, q⟩ := h
  refine ⟨_, (pss_cons (ps_set (i := 1) sccheck_lines.nd rfl (Or.inr rfl) (pe_lst pa_nil)) (pss_cons (ps_for PassesOwn.never rfl (pi_enum (by rfl) G.enumerate (pa_cons (pv 0) pa_nil)) (pg_tup rfl (pgs_cons (pg_name (i := 2) sccheck_lines.nd rfl (Or.inl rfl)) (pgs_cons (pg_tup rfl (pgs_cons (pg_name (i := 3) sccheck_lines.nd rfl (Or.inl rfl)) (pgs_cons (pg_name (i := 4) sccheck_lines.nd rfl (Or.inl rfl)) pgs_nil))) pgs_nil))) (pss_cons (ps_if (PW.pt (pw_or (pt_not (pt_val (C8.pe_c c_fits_name hr (by decide) rfl (pa_cons (pv 3) pa_nil)))) (pw_or (pt_cmpR op_in_seq (pv 3) (pv 1) (by rfl)) (pw_or1 (pt_not (pt_val (C8.pe_c c_fits_line hr (by decide) rfl (pa_cons (pv 4) pa_nil)))))))) (pss_one ps_never) pss_nil) (pss_one (ps_expr (pe_bm PySem.F.plainAttrs_list PySem.F.slot_list_append PySem.F.type_list_append mt_append (pv 1) (pa_cons (pv 3) pa_nil)))))) (pss_one (ps_for PassesOwn.never rfl (pi_enum (by rfl) G.enumerate (pa_cons (pv 0) pa_nil)) (pg_tup rfl (pgs_cons (pg_name (i := 2) sccheck_lines.nd rfl (Or.inl rfl)) (pgs_cons (pg_tup rfl (pgs_cons (pg_name (i := 3) sccheck_lines.nd rfl (Or.inl rfl)) (pgs_cons (pg_name (i := 4) sccheck_lines.nd rfl (Or.inl rfl)) pgs_nil))) pgs_nil))) (pss_one (ps_if (pt_truth (pe_lc (own := [("target", 5)]) rfl sccheck_lines.nd (pi_list (C8.pe_c c_targets_of hr (by decide) rfl (pa_cons (pv 4) pa_nil))) (blkOk_by (own := [("target", 5)]) (N := Nsccheck_lines) (sc := defScope (topS 24)) (by decide +kernel)) (fun _ _ _ _ _ => (pg_name (i := 5) sccheck_lines.nd rfl (Or.inl rfl))) (fun _ _ _ _ _ => pts_one (pt_cmpR (b_notIn (K := K) rfl) (pv 5) (pv 1) (by rfl))) (fun _ _ _ _ _ => (pv 5))) (by intro _; rfl)) (pss_one ps_never) pss_nil)))))), ?_⟩
  rw [show L2.start Nsccheck_lines [.ref a] = [some (.ref a), none, none, none, none, none] from rfl]; try simp only [cxK, cxK2, cxP, cxW, cxPn, cxWn]
  have hx0 : xs.length = R.ln.length := hxs.1
  have hnl := wf.len
  have hle : R.ln.length ≤ 8 := by have h := wf.ws.le; rw [ws_len] at h; exact h
  repeat walk_at "s"
  intro p H1 n1
  have hpn : H p = none := n1.fresh
  have ha1 := n1.up ha
  repeat walk_at "s"
  refine x_ForEL (SqL.of ha1) (fun j σ H' => ∃ (x2 x3 x4 x5 : Option V), σ = [some (.ref a), some (.ref p), x2, x3, x4, x5] ∧ Same H H' ∧ H' p = some (.lst ((R.nm.take j).map V.str))) ?_ ?_ ?_ ?_
  · exact ⟨none, none, none, none, rfl, n1.same, n1.at_⟩
  · rintro i σ H' _ ⟨_, _, _, _, _, s', _⟩
    exact SqL.of (s' _ _ ha)
  · rintro j x σ H2 H3 T hx ⟨x2, x3, x4, x5, rfl, s2, hp2⟩ n3
    obtain ⟨r, hr', rfl⟩ := map_some hx
    obtain ⟨l, la, hl, g1, g2⟩ := pair_at wf hxs hr'
    have hj := get_lt hr'
    have g13 : H3 r = some (.tup [.str (nmS R j), .ref la]) := n3.up (s2 _ _ g1)
    have hT := n3.at_
    have hnj := nm_at R (t := j) (by omega)
    have hnot := take_not wf.ns.nd hnj
    have hp3 := n3.up hp2
    repeat walk_at "s"
    refine ⟨nmS R j, rfl, wf.ns.ok _ (List.mem_of_getElem? hnj), fun H4 s4 => ?_⟩
    have hp4 := s4 _ _ hp3
    repeat walk_at "s"
    refine x_no (decide_eq_false hnot) ?_
    repeat walk_at "s"
    refine ⟨la, l, nmV R.nm, rfl, (((g2.up (Kp.same s2)).up n3.kp).up (Kp.same s4)), wf.par j l hl, fun H5 s5 => ?_⟩
    have hp5 := s5 _ _ hp4
    have htk : ((R.nm.take j).map V.str).length < sizeLine := by rw [List.length_map, List.length_take, sizeLine_eq]; omega
    repeat walk_at "s"
    intro H6 c6
    repeat walk_at "s"
    refine ⟨_, _, _, _, rfl, Same.chg (((s2.trans n3.same).trans s4).trans s5) hpn c6, ?_⟩
    rw [List.take_add_one, hnj, List.map_append]
    exact c6.at_
  · rintro σ H2 ⟨x2, x3, x4, x5, rfl, s2, hp2⟩
    have hlx : (xs.map V.ref).length = R.nm.length := by rw [List.length_map]; omega
    rw [hlx, List.take_length] at hp2
    have ha2 := s2 _ _ ha
    repeat walk_at "s"
    refine x_ForEL (SqL.of ha2) (fun j σ H' => ∃ (x2 x3 x4 x5 : Option V), σ = [some (.ref a), some (.ref p), x2, x3, x4, x5] ∧ Same H H' ∧ H' p = some (.lst (R.nm.map V.str))) ?_ ?_ ?_ ?_
    · exact ⟨_, _, _, _, rfl, s2, hp2⟩
    · rintro i σ H' _ ⟨_, _, _, _, _, s', _⟩
      exact SqL.of (s' _ _ ha)
    · rintro j x σ H3 H4 T hx ⟨x2, x3, x4, x5, rfl, s3, hp3⟩ n4
      obtain ⟨r, hr', rfl⟩ := map_some hx
      obtain ⟨l, la, hl, g1, g2⟩ := pair_at wf hxs hr'
      have g14 : H4 r = some (.tup [.str (nmS R j), .ref la]) := n4.up (s3 _ _ g1)
      have hT := n4.at_
      have hp4 := n4.up hp3
      repeat walk_at "s"
      refine ⟨la, l, nmV R.nm, false, rfl, ((g2.up (Kp.same s3)).up n4.kp), wf.par j l hl, .inl rfl, fun D H5 s5 _ hD => ?_⟩
      have hp5 := s5 _ _ hp4
      have htl : (l.tg.map (nmV R.nm)).length < 100000 := by
        rw [List.length_map]
        have hp := wf.par j l hl
        cases l with
        | cas ws o => show (ws.map (·.2) ++ [o]).length < _; rw [List.length_append, List.length_map]; have : ws.length ≤ 6 := hp.2.2; show ws.length + 1 < _; omega
        | _ => exact Nat.le_of_ble_eq_true rfl
      repeat walk_at "s"
      refine x_LcLF hD htl (fun _ => false) (fun _ => .non) ?_ ?_
      · intro i y H6 hy s6 R1 kR
        obtain ⟨t, ht, rfl⟩ := map_some hy
        have hgo := (wf.go j l hl t (List.mem_of_getElem? ht)).1
        rw [ws_len] at hgo
        have hmem : nmS R t ∈ R.nm := List.mem_of_getElem? (nm_at R (t := t) (by omega))
        have hp6 := s6 _ _ hp5
        rw [show nmV R.nm t = V.str (nmS R t) from rfl]
        repeat walk_at "s"
        refine kR _ rfl ?_ (fun z => nomatch z)
        intro QT kt
        repeat walk_at "s"
        rw [decide_eq_true hmem]
        exact kt _ (Same.refl _)
      intro E5 H6 n6
      rw [gv_none] at n6
      have hE := n6.at_
      repeat walk_at "s"
      exact ⟨_, _, _, _, rfl, ((s3.trans n4.same).trans s5).trans n6.same, n6.up hp5⟩
    · rintro σ H3 ⟨x2, x3, x4, x5, rfl, s3, hp3⟩
      exact q H3 s3
end
end
end K21
end

section
set_option maxRecDepth 100000
set_option maxHeartbeats 4000000
namespace K21
open PySem PySem.Spec PyProof.Rows L2
noncomputable section
local macro_rules | `(tactic| walk_at "hp") => `(tactic| first
  | assumption
  | ((with_reducible refine' At.h ?q); (case q => assumption))
  | ((with_reducible refine' New.at_ ?q); (case q => assumption))
  | ((with_reducible refine' Chg.at_ ?q); (case q => assumption))
  | ((with_reducible refine' New.up ?n ?q); (case n => assumption); (case q => walk_at "hp"))
  | ((with_reducible refine' Same.up ?n ?q); (case n => assumption); (case q => walk_at "hp")))
local macro_rules | `(tactic| walk_at "sz") => `(tactic| first | exact Nat.le_of_ble_eq_true rfl | assumption | omega)
local macro_rules | `(tactic| walk_at "i") => `(tactic| first
  | with_reducible refine' x_I0 ?_
  | ((with_reducible refine' x_I ?c ?_); (case c => first | assumption | (show (_ : Int) ≠ 0; omega) | exact .inr ⟨by decide, by decide⟩ | exact .inl ⟨by decide, by decide⟩ | (refine ⟨?_, ?_⟩ <;> first | decide | omega)))
  | with_reducible refine' x_eqI ?_
  | with_reducible refine' x_neI ?_
  | with_reducible refine' x_eqS ?_
  | with_reducible refine' x_neS ?_
  | with_reducible refine' x_isN ?_
  | with_reducible refine' x_notN ?_
  | with_reducible refine' x_U ?_
  | with_reducible refine' x_int ?_
  | with_reducible refine' x_intB ?_
  | with_reducible refine' x_min2 ?_
  | with_reducible refine' x_max2 ?_
  | ((with_reducible refine' x_ixLh ?h ?v ?_); (case h => walk_at "hp"); (case v => first | exact rfl | assumption))
  | ((with_reducible refine' x_ixTh ?h ?v ?_); (case h => walk_at "hp"); (case v => first | exact rfl | assumption))
  | ((with_reducible refine' x_lenL ?h ?_); (case h => walk_at "hp"))
  | ((with_reducible refine' x_lenT ?h ?_); (case h => walk_at "hp"))
  | ((with_reducible refine' x_gtuph ?h ?l ?_); (case h => walk_at "hp"); (case l => exact rfl))
  | ((with_reducible refine' x_BmAh ?h ?_); (case h => walk_at "hp"))
  | ((with_reducible refine' x_BmA0h ?h ?_); (case h => walk_at "hp"))
  | ((with_reducible refine' x_inStr ?h ?_); (case h => walk_at "hp"))
  | ((with_reducible refine' x_ninStr ?h ?_); (case h => walk_at "hp"))
  | ((with_reducible refine' x_inInt ?h ?_); (case h => walk_at "hp"))
  | ((with_reducible refine' x_ninInt ?h ?_); (case h => walk_at "hp"))
  | ((with_reducible refine' x_inL ?h ?f ?g ?_); (case h => walk_at "hp"); (case f => exact rfl); (case g => first | exact rfl | assumption))
  | ((with_reducible refine' x_inR ?h ?f ?g ?_); (case h => assumption); (case f => exact rfl); (case g => exact rfl))
  | ((with_reducible refine' x_inT ?h ?f ?g ?_); (case h => walk_at "hp"); (case f => exact rfl); (case g => first | exact rfl | assumption))
  | ((with_reducible refine' x_notInL ?h ?f ?g ?_); (case h => walk_at "hp"); (case f => exact rfl); (case g => first | exact rfl | assumption))
  | ((with_reducible refine' x_setL ?h ?j ?_); (case h => walk_at "hp"); (case j => first | exact rfl | assumption))
  | ((with_reducible refine' x_append ?h ?l ?_); (case h => walk_at "hp"); (case l => walk_at "sz"))
  | ((with_reducible refine' x_neNil ?h ?g ?_); (case h => walk_at "hp"); (case g => walk_at "hp"))
  | ((with_reducible refine' x_eqNil ?h ?g ?_); (case h => walk_at "hp"); (case g => walk_at "hp"))
  | ((with_reducible refine' x_DgA ?h ?v ?_); (case h => walk_at "hp"); (case v => first | exact stK_at _ _ _ | exact bkK_first _ _ | exact bkK_lines _ _ | exact stK_kept _ _ _ | exact stK_left _ _ _ | assumption))
  | ((with_reducible refine' x_FldA ?h ?c ?n ?l ?_); (case h => walk_at "hp"); (case c => assumption); (case n => assumption); (case l => first | exact rfl | assumption))
  | ((with_reducible refine' x_truL ?h ?_); (case h => walk_at "hp"))
  | ((with_reducible refine' x_truT ?h ?_); (case h => walk_at "hp"))
  | ((with_reducible refine' x_kTupL ?h ?_); (case h => walk_at "hp"))
  | ((with_reducible refine' x_kTupT ?h ?_); (case h => walk_at "hp"))
  | ((with_reducible refine' x_idx ?h ?n ?x ?_); (case h => walk_at "hp"); (case n => assumption); (case x => assumption))
  | ((with_reducible refine' x_SFldA ?h ?c ?n ?l ?_); (case h => walk_at "hp"); (case c => assumption); (case n => assumption); (case l => exact Nat.le_of_ble_eq_true rfl))
  | with_reducible refine' x_MkA ?_
  | ((with_reducible refine' x_lsL ?h ?_); (case h => walk_at "hp"))
  | ((with_reducible refine' x_lsT ?h ?_); (case h => walk_at "hp"))
  | with_reducible refine' x_CmA ?_
  | with_reducible refine' x_inSg ?_
  | ((with_reducible refine' x_lenS ?h ?_); (case h => assumption))
  | ((with_reducible refine' x_DspS ?h ?_); (case h => walk_at "hp"))
  | ((with_reducible refine' x_AlT ?h ?_); (case h => walk_at "sz"))
  | ((with_reducible refine' x_AlL ?h ?_); (case h => walk_at "sz"))
  | ((with_reducible refine' x_Rg1 ?a ?b ?_); (case a => omega); (case b => omega))
  | ((with_reducible refine' x_Rg2 ?a ?b ?c ?d ?_); (case a => omega); (case b => omega); (case c => omega); (case d => omega))
  | with_reducible refine' x_AlO ?_)
local macro_rules | `(tactic| walk_at "s") => `(tactic| first
  | with_reducible refine' x_seq ?_
  | with_reducible refine' x_asg ?_
  | with_reducible refine' x_gname ?_
  | ((with_reducible refine' x_var ?h ?_); (case h => exact rfl))
  | with_reducible refine' x_c ?_
  | with_reducible refine' x_op ?_
  | with_reducible refine' x_cons ?_
  | with_reducible refine' x_nil ?_
  | with_reducible refine' x_cb ?_
  | with_reducible refine' x_ret ?_
  | with_reducible refine' x_ifS ?_
  | with_reducible refine' x_test ?_
  | with_reducible refine' x_B ?_
  | with_reducible refine' x_bl ?_
  | with_reducible refine' x_if ?_
  | with_reducible refine' x_call ?_
  | with_reducible refine' x_tup ?_
  | with_reducible refine' x_lst ?_
  | with_reducible refine' x_gcons ?_
  | with_reducible refine' x_gnil ?_
  | with_reducible refine' x_gsub ?_
  | with_reducible refine' x_next ?_
  | with_reducible refine' x_drop ?_
  | with_reducible refine' x_and ?_
  | with_reducible refine' x_or ?_
  | with_reducible refine' x_not ?_
  | with_reducible refine' x_andV ?_
  | with_reducible refine' x_orV ?_
  | with_reducible refine' x_un ?_
  | with_reducible refine' x_chain ?_
  | with_reducible refine' x_sfld ?_
  | with_reducible refine' x_par ?_
  | with_reducible refine' x_par2 ?_
  | with_reducible refine' x_par3 ?_
  | with_reducible refine' x_par33 ?_
  | with_reducible refine' x_fld ?_
  | with_reducible refine' x_meth ?_
  | with_reducible refine' x_bm ?_
  | with_reducible refine' x_bm0 ?_
  | with_reducible refine' x_forL ?_
  | with_reducible refine' x_forT ?_
  | with_reducible refine' x_forR1 ?_
  | with_reducible refine' x_forET ?_
  | with_reducible refine' x_thn ?_
  | with_reducible refine' x_lcS ?_
  | with_reducible refine' x_cm ?_
  | ((with_reducible refine' x_mkv ?h ?_); (case h => exact rfl))
  | with_reducible refine' x_mk ?_
  | with_reducible refine' x_forEL ?_
  | with_reducible refine' x_forR2 ?_
  | with_reducible refine' x_lcL ?_
  | with_reducible refine' x_lcT ?_
  | with_reducible refine' x_lcR1 ?_
  | with_reducible refine' x_lcR2 ?_
  | with_reducible refine' x_dnew ?_
  | with_reducible refine' x_retN ?_
  | with_reducible refine' x_ff ?_
  | with_reducible refine' x_lrg1 ?_
  | with_reducible refine' x_disp ?_
  | with_reducible refine' x_pnil ?_
  | with_reducible refine' x_pcons ?_
  | with_reducible refine' x_dget ?_
  | with_reducible refine' x_dput ?_
  | with_reducible refine' x_dnewN ?_
  | with_reducible refine' x_nin ?_
  | with_reducible refine' x_nget ?_
  | with_reducible refine' x_nput ?_
  | ((with_reducible refine' x_yes ?e ?_); (case e => first | decide +kernel | exact not_int_non _ | exact not_str_non _))
  | ((with_reducible refine' x_no ?e ?_); (case e => first | decide +kernel | exact int_non _ | exact str_non _ | exact rfl))
  | with_reducible refine' x_lrg2 ?_
  | with_reducible refine' x_tt ?_
  | with_reducible refine' x_break ?_
  | walk_at "i")

def Nscsilent_ways : List Str := ["lines", "names", "found", "name", "line", "targets", "target"]
theorem scsilent_ways : FnScope Nscsilent_ways ["lines"] (defScope (topS 25)) := ⟨rfl, rfl, rfl, by decide +kernel, rfl, by decide +kernel, by decide +kernel⟩
/-- where a silent line goes -/
def swOf (l : Ln) : List Nat := if l.wd.look = true then [] else l.tg
def natV (ts : List Nat) : List V := ts.map fun (t : Nat) => V.int (t : Int)
theorem look_in (x : Wd) : inV (.str x.str) [.str "case", .str "take", .str "rest", .str "cap", .str "jump"] = x.look := by cases x <;> decide +kernel
def SwAt (H : Hp) (a : Addr) (R : Rd) : Prop := ∃ ps : List Addr, H a = some (.lst (ps.map V.ref)) ∧ ps.length = R.ln.length ∧ ∀ (i : Nat) (p : Addr) (l : Ln), ps[i]? = some p → R.ln[i]? = some l → H p = some (.lst (natV (swOf l)))
theorem SwAt.up {H H' : Hp} {a : Addr} {R : Rd} (h : SwAt H a R) (k : Same H H') : SwAt H' a R := by
  obtain ⟨ps, h1, h2, h3⟩ := h
  exact ⟨ps, k _ _ h1, h2, fun i p l a b => k _ _ (h3 i p l a b)⟩
theorem swOf_len (l : Ln) : (swOf l).length ≤ 2 := by
  unfold swOf
  cases l <;> simp [Ln.wd, Wd.look, Ln.tg]
section
variable {P : Program} {w : World} {K : PySem.W.Frag} {mg : Str → Option Value} {base : Heap} {rd : Addr}
def spSw : Sp := fun vs H Q _ => ∃ (lt : Addr) (xs : List Addr) (R : Rd), vs = [.ref lt] ∧ H lt = some (.tup (xs.map V.ref)) ∧ LnsAt No H (nmV R.nm) true xs R ∧ WF R ∧ ∀ (a : Addr) (H' : Hp), Same H H' → SwAt H' a R → Q (.ref a) H'
theorem ok_sw {f : Addr} {fd : FuncData} (F : L2.Fun K "silent_ways" "silent_ways" (topS 25) f fd) (m : mg "silent_ways" = some (.ref f)) (b : Binds K fd ["lines"] []) (G : Gm K mg) (GR : Gr K mg rd) (c_targets_of : C8.Cal P w K mg base 1 "targets_of" spTg []) : C8.Cal P w K mg base 2 "silent_ways" spSw [] := by
  refine calN F m b scsilent_ways (fun vs H Q E h => ?_) (fun cdv A outer s H vs Q E hr h => ?_)
  · obtain ⟨lt, xs, R, rfl, _⟩ := h
    rfl
  obtain ⟨lt, xs, R, rfl, hlt, hxs, wf, q⟩ := h
  refine ⟨_, (pss_cons (ps_set (i := 1) scsilent_ways.nd rfl (Or.inr rfl) (pe_lc (own := [("name", 3), ("line", 4)]) rfl scsilent_ways.nd (pi_tup (pv 0)) (blkOk_by (own := [("name", 3), ("line", 4)]) (N := Nscsilent_ways) (sc := defScope (topS 25)) (by decide +kernel)) (fun _ _ _ _ _ => (b_gtup (K := K) (n := 2) rfl rfl (pgs_cons (pg_name (i := 3) scsilent_ways.nd rfl (Or.inl rfl)) (pgs_cons (pg_name (i := 4) scsilent_ways.nd rfl (Or.inl rfl)) pgs_nil)))) (fun _ _ _ _ _ => pts_nil) (fun _ _ _ _ _ => (pv 3)))) (pss_cons (ps_set (i := 2) scsilent_ways.nd rfl (Or.inl rfl) (pe_lst pa_nil)) (pss_cons (ps_for PassesOwn.never rfl (pi_tup (pv 0)) (pg_tup rfl (pgs_cons (pg_name (i := 3) scsilent_ways.nd rfl (Or.inl rfl)) (pgs_cons (pg_name (i := 4) scsilent_ways.nd rfl (Or.inl rfl)) pgs_nil))) (pss_cons (ps_set (i := 5) scsilent_ways.nd rfl (Or.inl rfl) (pe_ifExp (pt_cmpR op_in_seq (pe_ix ix_tup (pv 4) pe_int (fun _ _ => rfl)) (C8.pe_gc rfl GR.READING) (by rfl)) (pe_lst pa_nil) (C8.pe_c c_targets_of hr (by decide) rfl (pa_cons (pv 4) pa_nil)))) (pss_one (ps_expr (pe_bm PySem.F.plainAttrs_list PySem.F.slot_list_append PySem.F.type_list_append mt_append (pv 2) (pa_cons (pe_lc (own := [("target", 6)]) rfl scsilent_ways.nd (pi_list (pv 5)) (blkOk_by (own := [("target", 6)]) (N := Nscsilent_ways) (sc := defScope (topS 25)) (by decide +kernel)) (fun _ _ _ _ _ => (pg_name (i := 6) scsilent_ways.nd rfl (Or.inl rfl))) (fun _ _ _ _ _ => pts_nil) (fun _ _ _ _ _ => (b_bm (K := K) rfl PySem.F.plainAttrs_list PySem.F.slot_list_index PySem.F.type_list_index (b_index (K := K) rfl) (pv 1) (pa_cons (pv 6) pa_nil)))) pa_nil)))))) (pss_one (ps_ret (pv 2)))))), ?_⟩
  rw [show L2.start Nscsilent_ways [.ref lt] = [some (.ref lt), none, none, none, none, none, none] from rfl]; try simp only [cxK, cxK2, cxP, cxW, cxPn, cxWn]
  have hrd := GR.seq
  have hx0 : xs.length = R.ln.length := hxs.1
  have hnl := wf.len
  have hle : R.ln.length ≤ 8 := by have h := wf.ws.le; rw [ws_len] at h; exact h
  repeat walk_at "s"
  refine x_LcTF hlt (by rw [List.length_map]; omega) (fun _ => true) (fun i => .str (nmS R i)) ?_ ?_
  · intro i x H1 hx s1 R1 kR
    obtain ⟨r, hr', rfl⟩ := map_some hx
    obtain ⟨l, la, hl, g1, g2⟩ := pair_at wf hxs hr'
    have g1' := s1 _ _ g1
    repeat walk_at "s"
    refine kR _ rfl EvB.yes fun _ H2 s2 Q2 k2 => ?_
    repeat walk_at "s"
    exact k2 _ (Same.refl _)
  intro lb H1 n1
  rw [gv_all, List.length_map, hx0, ← hnl] at n1
  have e : ((List.range R.nm.length).map fun i => V.str (nmS R i)) = R.nm.map V.str := range_map R.nm Str.empty V.str
  rw [e] at n1
  have nd := wf.ns.nd
  repeat walk_at "s"
  intro p H2 n2
  have s02 := n1.same.trans n2.same
  have hpn : H p = none := by
    cases hz : H p with
    | none => rfl
    | some z => exact absurd (n1.same _ _ hz) (by rw [n2.fresh]; exact nofun)
  have plb : lb ≠ p := (n2.ne n1.at_).symm
  have hlb2 := n2.up n1.at_
  have hlt2 := s02 _ _ hlt
  repeat walk_at "s"
  refine x_ForT (SqT.of hlt2) (fun j σ H' => ∃ (ps : List Addr) (x3 x4 x5 x6 : Option V), σ = [some (.ref lt), some (.ref lb), some (.ref p), x3, x4, x5, x6] ∧ Same H H' ∧ H' lb = some (.lst (R.nm.map V.str)) ∧ H' p = some (.lst (ps.map V.ref)) ∧ ps.length = j ∧
    ∀ (i : Nat) (b : Addr) (l : Ln), ps[i]? = some b → R.ln[i]? = some l → H' b = some (.lst (natV (swOf l))) ∧ b ≠ p) ?_ ?_ ?_ ?_
  · exact ⟨[], none, none, none, none, rfl, s02, hlb2, n2.at_, rfl, fun i b l h => nomatch h⟩
  · rintro i σ H' _ ⟨_, _, _, _, _, _, s', _⟩
    exact SqT.of (s' _ _ hlt)
  · rintro j x σ H3 hx ⟨ps, x3, x4, x5, x6, rfl, s3, hlb3, hp3, hpl, hps⟩
    obtain ⟨r, hr', rfl⟩ := map_some hx
    obtain ⟨l, la, hl, g1, ⟨wa, b1, b2⟩⟩ := pair_at wf hxs hr'
    have hj := get_lt hr'
    have g13 := s3 _ _ g1
    have la3 := s3 _ _ b1.h
    have h0 : (l.row (nmV R.nm) wa)[0]? = some (.str l.wd.str) := row0 _ _ _
    have hv0 : atI (l.row (nmV R.nm) wa) 0 = some (.str l.wd.str) := atI_nat (j := 0) h0
    have hpj : (ps.map V.ref).length < sizeLine := by rw [List.length_map, sizeLine_eq]; omega
    -- behind the targets: the numbers
    have next : ∀ (D : Addr) (H5 : Hp) (ts : List Nat) (QQ : VK), Same H3 H5 → H5 D = some (.lst (ts.map (nmV R.nm))) → ts = swOf l → (∀ e H6, New H5 H6 e (.lst (natV (swOf l))) → QQ (.ref e) H6) → LcA (jL K) (gName 6) tYes (tBM K "list" (rIndex K) (tVar 1) (tCons (tVar 6) tNil)) (List.map (fun x => x.snd) [(Str.ofString "target", 6)]) (((([some (V.ref lt), some (V.ref lb), some (V.ref p), x3, x4, x5, x6].set 3 (some (V.str (nmS R j)))).set 4 (some (V.ref la)))).set 5 (some (V.ref D))) (V.ref D) H5 QQ := fun D H5 ts QQ s5 hD hts kk => by
      have hlb5 := s5 _ _ hlb3
      have hl2 : (ts.map (nmV R.nm)).length < 100000 := by rw [List.length_map, hts]; have := swOf_len l; omega
      refine x_LcLF hD hl2 (fun _ => true) (fun i => .int ((ts.getD i 0 : Nat) : Int)) ?_ ?_
      · intro i y H6 hy s6 R1 kR
        obtain ⟨t, ht, rfl⟩ := map_some hy
        have htm : t ∈ l.tg := by
          have := List.mem_of_getElem? ht
          rw [hts] at this
          unfold swOf at this
          split at this
          · exact nomatch this
          · exact this
        have hgo := (wf.go j l hl t htm).1
        rw [ws_len] at hgo
        have hnt := nm_at R (t := t) (by omega)
        have hlb6 := s6 _ _ hlb5
        have et : ts.getD i 0 = t := by rw [List.getD_eq_getElem?_getD, ht] <;> rfl
        rw [show nmV R.nm t = V.str (nmS R t) from rfl]
        repeat walk_at "s"
        refine kR _ rfl EvB.yes fun _ H7 s7 Q2 k2 => ?_
        have hlb7 := s7 _ _ hlb6
        have k3 := k2 _ (Same.refl _)
        rw [et] at k3
        repeat walk_at "s"
        exact k3
      intro e5 H6 n6
      have e : gv (ts.map (nmV R.nm)).length (fun _ => true) (fun i => V.int ((ts.getD i 0 : Nat) : Int)) = natV (swOf l) := by
        rw [gv_all, List.length_map, ← hts]
        exact range_map ts 0 fun (t : Nat) => V.int (t : Int)
      rw [e] at n6
      exact kk e5 H6 n6
    repeat walk_at "s"
    have done : ∀ (e : Addr) (H5 H6 H7 : Hp) (y5 : Option V), Same H3 H5 → New H5 H6 e (.lst (natV (swOf l))) → Chg H6 H7 p (.lst (ps.map V.ref ++ [.ref e])) → ∃ (ps' : List Addr) (z3 z4 z5 z6 : Option V), [some (V.ref lt), some (V.ref lb), some (V.ref p), some (V.str (nmS R j)), some (V.ref la), y5, x6] = [some (.ref lt), some (.ref lb), some (.ref p), z3, z4, z5, z6] ∧ Same H H7 ∧ H7 lb = some (.lst (R.nm.map V.str)) ∧ H7 p = some (.lst (ps'.map V.ref)) ∧ ps'.length = j + 1 ∧
        ∀ (i : Nat) (b : Addr) (l : Ln), ps'[i]? = some b → R.ln[i]? = some l → H7 b = some (.lst (natV (swOf l))) ∧ b ≠ p := fun e H5 H6 H7 y5 s5 n6 c7 => by
      have hp5 := s5 _ _ hp3
      have pe : e ≠ p := n6.ne hp5
      refine ⟨ps ++ [e], _, _, _, _, rfl, Same.chg ((s3.trans s5).trans n6.same) hpn c7, c7.up plb (n6.up (s5 _ _ hlb3)), by rw [List.map_append]; exact c7.at_, by rw [List.length_append, hpl] <;> rfl, fun i b l' hb hl' => ?_⟩
      rcases snoc_get hb with ⟨z1, z2⟩ | ⟨z1, rfl⟩
      · obtain ⟨y1, y2⟩ := hps i b l' z2 hl'
        exact ⟨c7.up y2 (n6.up (s5 _ _ y1)), y2⟩
      · rw [z1, hpl, hl] at hl'
        cases hl'
        exact ⟨c7.up pe n6.at_, pe⟩
    rw [look_in]
    refine x_iteB (fun hlk => ?_) (fun hlk => ?_)
    · repeat walk_at "s"
      intro D H5 n5
      have hp5 := n5.up hp3
      repeat walk_at "s"
      refine next D H5 [] _ n5.same n5.at_ (by unfold swOf; rw [if_pos hlk]) fun e H6 n6 => ?_
      have hp6 := n6.up hp5
      repeat walk_at "s"
      intro H7 c7
      repeat walk_at "s"
      exact done e H5 H6 H7 _ n5.same n6 c7
    · repeat walk_at "s"
      refine ⟨la, l, nmV R.nm, true, rfl, ⟨wa, b1.up (Kp.same s3), fun ws o e => ?_⟩, wf.par j l hl, .inr (fun ws o e => ?_), fun D H5 s5 _ hD => ?_⟩
      · obtain ⟨rs, f1, f2⟩ := b2 ws o e
        exact ⟨rs, f1.up (Kp.same s3), f2.up (Kp.same s3)⟩
      · rw [e] at hlk
        exact nomatch hlk
      have hp5 := s5 _ _ hp3
      repeat walk_at "s"
      refine next D H5 l.tg _ s5 hD (by unfold swOf; rw [if_neg (by rw [hlk]; decide)]) fun e H6 n6 => ?_
      have hp6 := n6.up hp5
      repeat walk_at "s"
      intro H7 c7
      repeat walk_at "s"
      exact done e H5 H6 H7 _ s5 n6 c7
  · rintro σ H3 ⟨ps, x3, x4, x5, x6, rfl, s3, hlb3, hp3, hpl, hps⟩
    repeat walk_at "s"
    refine q p H3 s3 ⟨ps, hp3, by rw [hpl, List.length_map]; exact hx0, fun i b l hb hl => (hps i b l hb hl).1⟩
end
end
end K21
end

section
set_option maxRecDepth 100000
set_option maxHeartbeats 4000000
namespace K21
open PySem PySem.Spec PyProof.Rows L2
noncomputable section
local macro_rules | `(tactic| walk_at "hp") => `(tactic| first
  | assumption
  | ((with_reducible refine' At.h ?q); (case q => assumption))
  | ((with_reducible refine' New.at_ ?q); (case q => assumption))
  | ((with_reducible refine' Chg.at_ ?q); (case q => assumption))
  | ((with_reducible refine' New.up ?n ?q); (case n => assumption); (case q => walk_at "hp"))
  | ((with_reducible refine' Same.up ?n ?q); (case n => assumption); (case q => walk_at "hp")))
local macro_rules | `(tactic| walk_at "sz") => `(tactic| first | exact Nat.le_of_ble_eq_true rfl | assumption | omega)
local macro_rules | `(tactic| walk_at "i") => `(tactic| first
  | with_reducible refine' x_I0 ?_
  | ((with_reducible refine' x_I ?c ?_); (case c => first | assumption | (show (_ : Int) ≠ 0; omega) | exact .inr ⟨by decide, by decide⟩ | exact .inl ⟨by decide, by decide⟩ | (refine ⟨?_, ?_⟩ <;> first | decide | omega)))
  | with_reducible refine' x_eqI ?_
  | with_reducible refine' x_neI ?_
  | with_reducible refine' x_eqS ?_
  | with_reducible refine' x_neS ?_
  | with_reducible refine' x_isN ?_
  | with_reducible refine' x_notN ?_
  | with_reducible refine' x_U ?_
  | with_reducible refine' x_int ?_
  | with_reducible refine' x_intB ?_
  | with_reducible refine' x_min2 ?_
  | with_reducible refine' x_max2 ?_
  | ((with_reducible refine' x_ixLh ?h ?v ?_); (case h => walk_at "hp"); (case v => first | exact rfl | assumption))
  | ((with_reducible refine' x_ixTh ?h ?v ?_); (case h => walk_at "hp"); (case v => first | exact rfl | assumption))
  | ((with_reducible refine' x_lenL ?h ?_); (case h => walk_at "hp"))
  | ((with_reducible refine' x_lenT ?h ?_); (case h => walk_at "hp"))
  | ((with_reducible refine' x_gtuph ?h ?l ?_); (case h => walk_at "hp"); (case l => exact rfl))
  | ((with_reducible refine' x_BmAh ?h ?_); (case h => walk_at "hp"))
  | ((with_reducible refine' x_BmA0h ?h ?_); (case h => walk_at "hp"))
  | ((with_reducible refine' x_inStr ?h ?_); (case h => walk_at "hp"))
  | ((with_reducible refine' x_ninStr ?h ?_); (case h => walk_at "hp"))
  | ((with_reducible refine' x_inInt ?h ?_); (case h => walk_at "hp"))
  | ((with_reducible refine' x_ninInt ?h ?_); (case h => walk_at "hp"))
  | ((with_reducible refine' x_inL ?h ?f ?g ?_); (case h => walk_at "hp"); (case f => exact rfl); (case g => first | exact rfl | assumption))
  | ((with_reducible refine' x_inR ?h ?f ?g ?_); (case h => assumption); (case f => exact rfl); (case g => exact rfl))
  | ((with_reducible refine' x_inT ?h ?f ?g ?_); (case h => walk_at "hp"); (case f => exact rfl); (case g => first | exact rfl | assumption))
  | ((with_reducible refine' x_notInL ?h ?f ?g ?_); (case h => walk_at "hp"); (case f => exact rfl); (case g => first | exact rfl | assumption))
  | ((with_reducible refine' x_setL ?h ?j ?_); (case h => walk_at "hp"); (case j => first | exact rfl | assumption))
  | ((with_reducible refine' x_append ?h ?l ?_); (case h => walk_at "hp"); (case l => walk_at "sz"))
  | ((with_reducible refine' x_neNil ?h ?g ?_); (case h => walk_at "hp"); (case g => walk_at "hp"))
  | ((with_reducible refine' x_eqNil ?h ?g ?_); (case h => walk_at "hp"); (case g => walk_at "hp"))
  | ((with_reducible refine' x_DgA ?h ?v ?_); (case h => walk_at "hp"); (case v => first | exact stK_at _ _ _ | exact bkK_first _ _ | exact bkK_lines _ _ | exact stK_kept _ _ _ | exact stK_left _ _ _ | assumption))
  | ((with_reducible refine' x_FldA ?h ?c ?n ?l ?_); (case h => walk_at "hp"); (case c => assumption); (case n => assumption); (case l => first | exact rfl | assumption))
  | ((with_reducible refine' x_truL ?h ?_); (case h => walk_at "hp"))
  | ((with_reducible refine' x_truT ?h ?_); (case h => walk_at "hp"))
  | ((with_reducible refine' x_kTupL ?h ?_); (case h => walk_at "hp"))
  | ((with_reducible refine' x_kTupT ?h ?_); (case h => walk_at "hp"))
  | ((with_reducible refine' x_idx ?h ?n ?x ?_); (case h => walk_at "hp"); (case n => assumption); (case x => assumption))
  | ((with_reducible refine' x_SFldA ?h ?c ?n ?l ?_); (case h => walk_at "hp"); (case c => assumption); (case n => assumption); (case l => exact Nat.le_of_ble_eq_true rfl))
  | with_reducible refine' x_MkA ?_
  | ((with_reducible refine' x_lsL ?h ?_); (case h => walk_at "hp"))
  | ((with_reducible refine' x_lsT ?h ?_); (case h => walk_at "hp"))
  | with_reducible refine' x_CmA ?_
  | with_reducible refine' x_inSg ?_
  | ((with_reducible refine' x_lenS ?h ?_); (case h => assumption))
  | ((with_reducible refine' x_DspS ?h ?_); (case h => walk_at "hp"))
  | ((with_reducible refine' x_AlT ?h ?_); (case h => walk_at "sz"))
  | ((with_reducible refine' x_AlL ?h ?_); (case h => walk_at "sz"))
  | ((with_reducible refine' x_Rg1 ?a ?b ?_); (case a => omega); (case b => omega))
  | ((with_reducible refine' x_Rg2 ?a ?b ?c ?d ?_); (case a => omega); (case b => omega); (case c => omega); (case d => omega))
  | with_reducible refine' x_AlO ?_)
local macro_rules | `(tactic| walk_at "s") => `(tactic| first
  | with_reducible refine' x_seq ?_
  | with_reducible refine' x_asg ?_
  | with_reducible refine' x_gname ?_
  | ((with_reducible refine' x_var ?h ?_); (case h => exact rfl))
  | with_reducible refine' x_c ?_
  | with_reducible refine' x_op ?_
  | with_reducible refine' x_cons ?_
  | with_reducible refine' x_nil ?_
  | with_reducible refine' x_cb ?_
  | with_reducible refine' x_ret ?_
  | with_reducible refine' x_ifS ?_
  | with_reducible refine' x_test ?_
  | with_reducible refine' x_B ?_
  | with_reducible refine' x_bl ?_
  | with_reducible refine' x_if ?_
  | with_reducible refine' x_call ?_
  | with_reducible refine' x_tup ?_
  | with_reducible refine' x_lst ?_
  | with_reducible refine' x_gcons ?_
  | with_reducible refine' x_gnil ?_
  | with_reducible refine' x_gsub ?_
  | with_reducible refine' x_next ?_
  | with_reducible refine' x_drop ?_
  | with_reducible refine' x_and ?_
  | with_reducible refine' x_or ?_
  | with_reducible refine' x_not ?_
  | with_reducible refine' x_andV ?_
  | with_reducible refine' x_orV ?_
  | with_reducible refine' x_un ?_
  | with_reducible refine' x_chain ?_
  | with_reducible refine' x_sfld ?_
  | with_reducible refine' x_par ?_
  | with_reducible refine' x_par2 ?_
  | with_reducible refine' x_par3 ?_
  | with_reducible refine' x_par33 ?_
  | with_reducible refine' x_fld ?_
  | with_reducible refine' x_meth ?_
  | with_reducible refine' x_bm ?_
  | with_reducible refine' x_bm0 ?_
  | with_reducible refine' x_forL ?_
  | with_reducible refine' x_forT ?_
  | with_reducible refine' x_forR1 ?_
  | with_reducible refine' x_forET ?_
  | with_reducible refine' x_thn ?_
  | with_reducible refine' x_lcS ?_
  | with_reducible refine' x_cm ?_
  | ((with_reducible refine' x_mkv ?h ?_); (case h => exact rfl))
  | with_reducible refine' x_mk ?_
  | with_reducible refine' x_forEL ?_
  | with_reducible refine' x_forR2 ?_
  | with_reducible refine' x_lcL ?_
  | with_reducible refine' x_lcT ?_
  | with_reducible refine' x_lcR1 ?_
  | with_reducible refine' x_lcR2 ?_
  | with_reducible refine' x_dnew ?_
  | with_reducible refine' x_retN ?_
  | with_reducible refine' x_ff ?_
  | with_reducible refine' x_lrg1 ?_
  | with_reducible refine' x_disp ?_
  | with_reducible refine' x_pnil ?_
  | with_reducible refine' x_pcons ?_
  | with_reducible refine' x_dget ?_
  | with_reducible refine' x_dput ?_
  | with_reducible refine' x_dnewN ?_
  | with_reducible refine' x_nin ?_
  | with_reducible refine' x_nget ?_
  | with_reducible refine' x_nput ?_
  | ((with_reducible refine' x_yes ?e ?_); (case e => first | decide +kernel | exact not_int_non _ | exact not_str_non _))
  | ((with_reducible refine' x_no ?e ?_); (case e => first | decide +kernel | exact int_non _ | exact str_non _ | exact rfl))
  | with_reducible refine' x_lrg2 ?_
  | with_reducible refine' x_tt ?_
  | with_reducible refine' x_break ?_
  | walk_at "i")

def Nscreached : List Str := ["ways", "number", "found", "front", "at"]
theorem screached : FnScope Nscreached ["ways", "number"] (defScope (topS 26)) := ⟨rfl, rfl, rfl, by decide +kernel, rfl, by decide +kernel, by decide +kernel⟩
theorem x_pop {l : Addr} {xs : List V} {y : V} {H : Hp} {Q : VK} (h : H l = some (.lst (xs ++ [y]))) (k : ∀ H2, Chg H H2 l (.lst xs) → Q y H2) : rPop (.ref l) [] H Q :=
  ⟨l, xs ++ [y], y, rfl, rfl, h, by rw [List.length_append, List.length_singleton, Nat.add_sub_cancel, List.getElem?_append_right (Nat.le_refl _), Nat.sub_self] <;> rfl, by rw [List.dropLast_concat]; exact k _ Chg.of⟩
theorem x_extend {l b : Addr} {xs zs : List V} {H : Hp} {Q : VK} (h : H l = some (.lst xs)) (hb : H b = some (.lst zs)) (hz : xs.length + zs.length ≤ sizeLine) (k : ∀ H2, Chg H H2 l (.lst (xs ++ zs)) → Q .non H2) : rExtend (.ref l) [.ref b] H Q := ⟨l, b, xs, zs, rfl, rfl, h, hb, hz, k _ Chg.of⟩
/-- what is reached from i: a line that reads, or one behind i -/
def Rch (R : Rd) (i z : Nat) : Prop := z < R.ln.length ∧ ((∃ x, R.ws[z]? = some x ∧ x.look = true) ∨ (0 < i ∧ i < z)) ∧ (∃ x, R.ws[i]? = some x ∧ x.look = false)
theorem rch_one {R : Rd} (wf : WF R) {i t : Nat} {l : Ln} (hl : R.ln[i]? = some l) (ht : t ∈ swOf l) : Rch R i t := by
  unfold swOf at ht
  split at ht
  · exact nomatch ht
  · rename_i hk
    have hk : l.wd.look = false := by simpa using hk
    have g := wf.go i l hl t ht
    refine ⟨by rw [← ws_len]; exact g.1, ?_, l.wd, ws_get hl, hk⟩
    rcases g.2 _ (ws_get hl) hk with h | h
    · exact .inl h
    · exact .inr h
theorem rch_two {R : Rd} (wf : WF R) {i z t : Nat} {l : Ln} (h : Rch R i z) (hl : R.ln[z]? = some l) (ht : t ∈ swOf l) : Rch R i t := by
  obtain ⟨h1, h2, h3⟩ := rch_one wf hl ht
  obtain ⟨g1, g2, g3⟩ := h
  refine ⟨h1, ?_, g3⟩
  rcases h2 with h2 | h2
  · exact .inl h2
  · rcases g2 with ⟨x, e1, e2⟩ | g2
    · obtain ⟨y, f1, f2⟩ := h3
      rw [e1] at f1
      cases f1
      rw [e2] at f2
      exact nomatch f2
    · exact .inr ⟨g2.1, by omega⟩
theorem rch_not {R : Rd} {i : Nat} : ¬ Rch R i i := fun ⟨_, h, x, h1, h2⟩ => by
  rcases h with ⟨y, e1, e2⟩ | h
  · rw [h1] at e1
    cases e1
    rw [h2] at e2
    exact nomatch e2
  · omega
section
variable {P : Program} {w : World} {K : PySem.W.Frag} {mg : Str → Option Value} {base : Heap}
def spRch : Sp := fun vs H Q _ => ∃ (wy : Addr) (R : Rd) (i : Nat), vs = [.ref wy, .int i] ∧ SwAt H wy R ∧ WF R ∧ i < R.ln.length ∧ ∀ (a : Addr) (zs : List Nat) (H' : Hp), Same H H' → H' a = some (.lst (natV zs)) → zs.length ≤ 8 → (∀ z ∈ zs, Rch R i z) → Q (.ref a) H'
theorem ok_rch {f : Addr} {fd : FuncData} (F : L2.Fun K "reached" "reached" (topS 26) f fd) (m : mg "reached" = some (.ref f)) (b : Binds K fd ["ways", "number"] []) (G : Gm K mg) : C8.Cal P w K mg base 1 "reached" spRch [] := by
  refine calN F m b screached (fun vs H Q E h => ?_) (fun cdv A outer s H vs Q E hr h => ?_)
  · obtain ⟨wy, R, i, rfl, _⟩ := h
    rfl
  obtain ⟨wy, R, i, rfl, hwy, wf, hi, q⟩ := h
  refine ⟨_, (pss_cons (ps_set (i := 2) screached.nd rfl (Or.inl rfl) (pe_lst pa_nil)) (pss_cons (ps_set (i := 3) screached.nd rfl (Or.inl rfl) (pe_callTy k_list (by rfl) G.list (by decide +kernel) (pa_cons (pe_ix ix_list (pv 0) (pv 1) (fun _ _ => rfl)) pa_nil))) (pss_cons (ps_while PassesOwn.never (pt_truth (pv 3) (by intro _; rfl)) (pss_cons (ps_set (i := 4) screached.nd rfl (Or.inl rfl) (pe_bm0 PySem.F.plainAttrs_list PySem.F.slot_list_pop PySem.F.type_list_pop mt_pop (pv 3))) (pss_one (ps_if (pt_cmpR op_notIn_seq (pv 4) (pv 2) (by rfl)) (pss_cons (ps_expr (pe_bm PySem.F.plainAttrs_list PySem.F.slot_list_append PySem.F.type_list_append mt_append (pv 2) (pa_cons (pv 4) pa_nil))) (pss_one (ps_expr (pe_bm PySem.F.plainAttrs_list PySem.F.slot_list_extend PySem.F.type_list_extend mt_extend (pv 3) (pa_cons (pe_ix ix_list (pv 0) (pv 4) (fun _ _ => rfl)) pa_nil))))) pss_nil)))) (pss_one (ps_ret (pv 2)))))), ?_⟩
  rw [show L2.start Nscreached [.ref wy, .int i] = [some (.ref wy), some (.int i), none, none, none] from rfl]; try simp only [cxK, cxK2, cxP, cxW, cxPn, cxWn]
  have hle : R.ln.length ≤ 8 := by have h := wf.ws.le; rw [ws_len] at h; exact h
  obtain ⟨ps, p1, p2, p3⟩ := id hwy
  obtain ⟨p0, hp0⟩ := get_some (l := ps) (i := i) (by omega)
  obtain ⟨l, hl⟩ := get_some (l := R.ln) (i := i) hi
  have h0 := p3 i p0 l hp0 hl
  have hv0 : atI (ps.map V.ref) (i : Int) = some (.ref p0) := at_map hp0
  repeat walk_at "s"
  intro fo H1 n1
  have p11 := n1.up p1
  have h01 := n1.up h0
  have hfn : H fo = none := n1.fresh
  repeat walk_at "s"
  intro fr H2 n2
  have hrn : H fr = none := by
    cases hz : H fr with
    | none => rfl
    | some o => exact absurd (n1.same _ _ hz) (by rw [n2.fresh]; exact nofun)
  have ne : fo ≠ fr := (n2.ne n1.at_).symm
  have fo2 := n2.up n1.at_
  repeat walk_at "s"
  refine x_while (fun m σ H' => ∃ (zs fs : List Nat) (x4 : Option V), σ = [some (.ref wy), some (.int i), some (.ref fo), some (.ref fr), x4] ∧ Same H H' ∧ H' fo = some (.lst (natV zs)) ∧ H' fr = some (.lst (natV fs)) ∧ zs.Nodup ∧ (∀ z ∈ zs, Rch R i z) ∧ (∀ z ∈ fs, Rch R i z) ∧ fs.length ≤ 2 + 2 * zs.length ∧ m = 3 * (8 - zs.length) + fs.length) (24 + (swOf l).length) ?_ ?_
  · exact ⟨[], swOf l, none, rfl, n1.same.trans n2.same, fo2, n2.at_, List.nodup_nil, (fun _ h => nomatch h), (fun z hz => rch_one wf hl hz), by have := swOf_len l; show _ ≤ 2 + 2 * 0; omega, by show _ = 3 * (8 - 0) + _; omega⟩
  · rintro mm σ H3 ⟨zs, fs, x4, rfl, s3, hfo, hfr, nd, hz1, hz2, hsz, hm⟩
    have hzl : zs.length ≤ 8 := by
      have := nodup_le (m := List.range R.ln.length) nd fun z hz => List.mem_range.mpr (hz1 z hz).1
      rw [List.length_range] at this
      omega
    repeat walk_at "s"
    rcases last_of fs with rfl | ⟨gs, at', rfl⟩
    · refine x_whF ?_
      repeat walk_at "s"
      exact q fo zs H3 s3 hfo hzl hz1
    · rw [show (!(natV (gs ++ [at'])).isEmpty) = true by unfold natV; simp]
      refine x_whT ?_
      have hfr' : H3 fr = some (.lst (natV gs ++ [V.int at'])) := by rw [hfr]; unfold natV; rw [List.map_append] <;> rfl
      repeat walk_at "s"
      have hat : Rch R i at' := hz2 at' (List.mem_append.mpr (.inr (List.mem_singleton.mpr rfl)))
      have hgs : ∀ z ∈ gs, Rch R i z := fun z hz => hz2 z (List.mem_append.mpr (.inl hz))
      rw [List.length_append, List.length_singleton] at hsz hm
      refine x_pop hfr' fun H4 c4 => ?_
      have hfo4 := c4.up ne hfo
      have s4 : Same H H4 := Same.chg s3 hrn c4
      have hfoI : H4 fo = some (.lst ((zs.map fun (z : Nat) => (z : Int)).map V.int)) := by rw [hfo4]; unfold natV; rw [List.map_map] <;> rfl
      have hmem : (at' : Int) ∈ zs.map (fun (z : Nat) => (z : Int)) ↔ at' ∈ zs := by
        constructor
        · intro h
          obtain ⟨z, hz, e⟩ := List.mem_map.mp h
          have : z = at' := by omega
          rw [← this]; exact hz
        · exact fun h => List.mem_map.mpr ⟨at', h, rfl⟩
      repeat walk_at "s"
      refine x_iteN (fun hn => ?_) (fun hn => ?_)
      · have hn' : at' ∉ zs := fun z => hn (hmem.mpr z)
        have hzs7 : zs.length + 1 ≤ 8 := by
          have := nodup_le (l := at' :: zs) (m := List.range R.ln.length) (List.nodup_cons.mpr ⟨hn', nd⟩) fun z hz => List.mem_range.mpr (by
            rcases List.mem_cons.mp hz with e | hz
            · rw [e]; exact hat.1
            · exact (hz1 z hz).1)
          rw [List.length_range, List.length_cons] at this
          omega
        have hzl' : (natV zs).length < sizeLine := by unfold natV; rw [List.length_map, sizeLine_eq]; omega
        clear hfoI
        repeat walk_at "s"
        intro H5 c5
        have hfr5 := c5.up ne.symm c4.at_
        have s5 : Same H H5 := Same.chg s4 hfn c5
        obtain ⟨pt, hpt⟩ := get_some (l := ps) (i := at') (by have := hat.1; omega)
        obtain ⟨lt, hlt⟩ := get_some (l := R.ln) (i := at') hat.1
        have h5t := s5 _ _ (p3 at' pt lt hpt hlt)
        have hvt : atI (ps.map V.ref) (at' : Int) = some (.ref pt) := at_map hpt
        have p15 := s5 _ _ p1
        have hsl := swOf_len lt
        repeat walk_at "s"
        refine x_extend hfr5 h5t (by unfold natV; rw [List.length_map, List.length_map, sizeLine_eq]; omega) fun H6 c6 => ?_
        have hfo6 := c6.up ne c5.at_
        have e1 : natV zs ++ [V.int (at' : Int)] = natV (zs ++ [at']) := by unfold natV; rw [List.map_append] <;> rfl
        have e2 : natV gs ++ natV (swOf lt) = natV (gs ++ swOf lt) := by unfold natV; rw [List.map_append]
        have hf6 := c6.at_
        rw [e2] at hf6
        rw [e1] at hfo6
        repeat walk_at "s"
        refine ⟨3 * (8 - (zs ++ [at']).length) + (gs ++ swOf lt).length, ?_, zs ++ [at'], gs ++ swOf lt, _, rfl, Same.chg s5 hrn c6, hfo6, hf6, ?_, fun z hz => ?_, fun z hz => ?_, ?_, rfl⟩
        · rw [List.length_append, List.length_append, List.length_singleton]; omega
        · rw [List.nodup_append]
          exact ⟨nd, by simp, fun a ha b hb => by rw [List.mem_singleton.mp hb]; exact fun z => hn' (by rw [← z]; exact ha)⟩
        · rcases List.mem_append.mp hz with hz | hz
          · exact hz1 z hz
          · rw [List.mem_singleton.mp hz]; exact hat
        · rcases List.mem_append.mp hz with hz | hz
          · exact hgs z hz
          · exact rch_two wf hat hlt hz
        · rw [List.length_append, List.length_append, List.length_singleton]; omega
      · repeat walk_at "s"
        exact ⟨3 * (8 - zs.length) + gs.length, by omega, zs, gs, _, rfl, s4, hfo4, c4.at_, nd, hz1, hgs, by omega, rfl⟩
end
end
end K21
end

section
set_option maxRecDepth 100000
set_option maxHeartbeats 4000000
namespace K21
open PySem PySem.Spec PyProof.Rows L2
noncomputable section
local macro_rules | `(tactic| walk_at "hp") => `(tactic| first
  | assumption
  | ((with_reducible refine' At.h ?q); (case q => assumption))
  | ((with_reducible refine' New.at_ ?q); (case q => assumption))
  | ((with_reducible refine' Chg.at_ ?q); (case q => assumption))
  | ((with_reducible refine' New.up ?n ?q); (case n => assumption); (case q => walk_at "hp"))
  | ((with_reducible refine' Same.up ?n ?q); (case n => assumption); (case q => walk_at "hp")))
local macro_rules | `(tactic| walk_at "sz") => `(tactic| first | exact Nat.le_of_ble_eq_true rfl | assumption | omega)
local macro_rules | `(tactic| walk_at "i") => `(tactic| first
  | with_reducible refine' x_I0 ?_
  | ((with_reducible refine' x_I ?c ?_); (case c => first | assumption | (show (_ : Int) ≠ 0; omega) | exact .inr ⟨by decide, by decide⟩ | exact .inl ⟨by decide, by decide⟩ | (refine ⟨?_, ?_⟩ <;> first | decide | omega)))
  | with_reducible refine' x_eqI ?_
  | with_reducible refine' x_neI ?_
  | with_reducible refine' x_eqS ?_
  | with_reducible refine' x_neS ?_
  | with_reducible refine' x_isN ?_
  | with_reducible refine' x_notN ?_
  | with_reducible refine' x_U ?_
  | with_reducible refine' x_int ?_
  | with_reducible refine' x_intB ?_
  | with_reducible refine' x_min2 ?_
  | with_reducible refine' x_max2 ?_
  | ((with_reducible refine' x_ixLh ?h ?v ?_); (case h => walk_at "hp"); (case v => first | exact rfl | assumption))
  | ((with_reducible refine' x_ixTh ?h ?v ?_); (case h => walk_at "hp"); (case v => first | exact rfl | assumption))
  | ((with_reducible refine' x_lenL ?h ?_); (case h => walk_at "hp"))
  | ((with_reducible refine' x_lenT ?h ?_); (case h => walk_at "hp"))
  | ((with_reducible refine' x_gtuph ?h ?l ?_); (case h => walk_at "hp"); (case l => exact rfl))
  | ((with_reducible refine' x_BmAh ?h ?_); (case h => walk_at "hp"))
  | ((with_reducible refine' x_BmA0h ?h ?_); (case h => walk_at "hp"))
  | ((with_reducible refine' x_inStr ?h ?_); (case h => walk_at "hp"))
  | ((with_reducible refine' x_ninStr ?h ?_); (case h => walk_at "hp"))
  | ((with_reducible refine' x_inInt ?h ?_); (case h => walk_at "hp"))
  | ((with_reducible refine' x_ninInt ?h ?_); (case h => walk_at "hp"))
  | ((with_reducible refine' x_inL ?h ?f ?g ?_); (case h => walk_at "hp"); (case f => exact rfl); (case g => first | exact rfl | assumption))
  | ((with_reducible refine' x_inR ?h ?f ?g ?_); (case h => assumption); (case f => exact rfl); (case g => exact rfl))
  | ((with_reducible refine' x_inT ?h ?f ?g ?_); (case h => walk_at "hp"); (case f => exact rfl); (case g => first | exact rfl | assumption))
  | ((with_reducible refine' x_notInL ?h ?f ?g ?_); (case h => walk_at "hp"); (case f => exact rfl); (case g => first | exact rfl | assumption))
  | ((with_reducible refine' x_setL ?h ?j ?_); (case h => walk_at "hp"); (case j => first | exact rfl | assumption))
  | ((with_reducible refine' x_append ?h ?l ?_); (case h => walk_at "hp"); (case l => walk_at "sz"))
  | ((with_reducible refine' x_neNil ?h ?g ?_); (case h => walk_at "hp"); (case g => walk_at "hp"))
  | ((with_reducible refine' x_eqNil ?h ?g ?_); (case h => walk_at "hp"); (case g => walk_at "hp"))
  | ((with_reducible refine' x_DgA ?h ?v ?_); (case h => walk_at "hp"); (case v => first | exact stK_at _ _ _ | exact bkK_first _ _ | exact bkK_lines _ _ | exact stK_kept _ _ _ | exact stK_left _ _ _ | assumption))
  | ((with_reducible refine' x_FldA ?h ?c ?n ?l ?_); (case h => walk_at "hp"); (case c => assumption); (case n => assumption); (case l => first | exact rfl | assumption))
  | ((with_reducible refine' x_truL ?h ?_); (case h => walk_at "hp"))
  | ((with_reducible refine' x_truT ?h ?_); (case h => walk_at "hp"))
  | ((with_reducible refine' x_kTupL ?h ?_); (case h => walk_at "hp"))
  | ((with_reducible refine' x_kTupT ?h ?_); (case h => walk_at "hp"))
  | ((with_reducible refine' x_idx ?h ?n ?x ?_); (case h => walk_at "hp"); (case n => assumption); (case x => assumption))
  | ((with_reducible refine' x_SFldA ?h ?c ?n ?l ?_); (case h => walk_at "hp"); (case c => assumption); (case n => assumption); (case l => exact Nat.le_of_ble_eq_true rfl))
  | with_reducible refine' x_MkA ?_
  | ((with_reducible refine' x_lsL ?h ?_); (case h => walk_at "hp"))
  | ((with_reducible refine' x_lsT ?h ?_); (case h => walk_at "hp"))
  | with_reducible refine' x_CmA ?_
  | with_reducible refine' x_inSg ?_
  | ((with_reducible refine' x_lenS ?h ?_); (case h => assumption))
  | ((with_reducible refine' x_DspS ?h ?_); (case h => walk_at "hp"))
  | ((with_reducible refine' x_AlT ?h ?_); (case h => walk_at "sz"))
  | ((with_reducible refine' x_AlL ?h ?_); (case h => walk_at "sz"))
  | ((with_reducible refine' x_Rg1 ?a ?b ?_); (case a => omega); (case b => omega))
  | ((with_reducible refine' x_Rg2 ?a ?b ?c ?d ?_); (case a => omega); (case b => omega); (case c => omega); (case d => omega))
  | with_reducible refine' x_AlO ?_)
local macro_rules | `(tactic| walk_at "s") => `(tactic| first
  | with_reducible refine' x_seq ?_
  | with_reducible refine' x_asg ?_
  | with_reducible refine' x_gname ?_
  | ((with_reducible refine' x_var ?h ?_); (case h => exact rfl))
  | with_reducible refine' x_c ?_
  | with_reducible refine' x_op ?_
  | with_reducible refine' x_cons ?_
  | with_reducible refine' x_nil ?_
  | with_reducible refine' x_cb ?_
  | with_reducible refine' x_ret ?_
  | with_reducible refine' x_ifS ?_
  | with_reducible refine' x_test ?_
  | with_reducible refine' x_B ?_
  | with_reducible refine' x_bl ?_
  | with_reducible refine' x_if ?_
  | with_reducible refine' x_call ?_
  | with_reducible refine' x_tup ?_
  | with_reducible refine' x_lst ?_
  | with_reducible refine' x_gcons ?_
  | with_reducible refine' x_gnil ?_
  | with_reducible refine' x_gsub ?_
  | with_reducible refine' x_next ?_
  | with_reducible refine' x_drop ?_
  | with_reducible refine' x_and ?_
  | with_reducible refine' x_or ?_
  | with_reducible refine' x_not ?_
  | with_reducible refine' x_andV ?_
  | with_reducible refine' x_orV ?_
  | with_reducible refine' x_un ?_
  | with_reducible refine' x_chain ?_
  | with_reducible refine' x_sfld ?_
  | with_reducible refine' x_par ?_
  | with_reducible refine' x_par2 ?_
  | with_reducible refine' x_par3 ?_
  | with_reducible refine' x_par33 ?_
  | with_reducible refine' x_fld ?_
  | with_reducible refine' x_meth ?_
  | with_reducible refine' x_bm ?_
  | with_reducible refine' x_bm0 ?_
  | with_reducible refine' x_forL ?_
  | with_reducible refine' x_forT ?_
  | with_reducible refine' x_forR1 ?_
  | with_reducible refine' x_forET ?_
  | with_reducible refine' x_thn ?_
  | with_reducible refine' x_lcS ?_
  | with_reducible refine' x_cm ?_
  | ((with_reducible refine' x_mkv ?h ?_); (case h => exact rfl))
  | with_reducible refine' x_mk ?_
  | with_reducible refine' x_forEL ?_
  | with_reducible refine' x_forR2 ?_
  | with_reducible refine' x_lcL ?_
  | with_reducible refine' x_lcT ?_
  | with_reducible refine' x_lcR1 ?_
  | with_reducible refine' x_lcR2 ?_
  | with_reducible refine' x_dnew ?_
  | with_reducible refine' x_retN ?_
  | with_reducible refine' x_ff ?_
  | with_reducible refine' x_lrg1 ?_
  | with_reducible refine' x_disp ?_
  | with_reducible refine' x_pnil ?_
  | with_reducible refine' x_pcons ?_
  | with_reducible refine' x_dget ?_
  | with_reducible refine' x_dput ?_
  | with_reducible refine' x_dnewN ?_
  | with_reducible refine' x_nin ?_
  | with_reducible refine' x_nget ?_
  | with_reducible refine' x_nput ?_
  | ((with_reducible refine' x_yes ?e ?_); (case e => first | decide +kernel | exact not_int_non _ | exact not_str_non _))
  | ((with_reducible refine' x_no ?e ?_); (case e => first | decide +kernel | exact int_non _ | exact str_non _ | exact rfl))
  | with_reducible refine' x_lrg2 ?_
  | with_reducible refine' x_tt ?_
  | with_reducible refine' x_break ?_
  | walk_at "i")

def Nsccheck_ways : List Str := ["lines", "ways", "number", "begin", "name", "line"]
theorem sccheck_ways : FnScope Nsccheck_ways ["lines"] (defScope (topS 27)) := ⟨rfl, rfl, rfl, by decide +kernel, rfl, by decide +kernel, by decide +kernel⟩
def NscReader___init__ : List Str := ["self", "lines", "name", "line"]
theorem scReader___init__ : FnScope NscReader___init__ ["self", "lines"] (defScope (inC 28 0)) := ⟨rfl, rfl, rfl, by decide +kernel, rfl, by decide +kernel, by decide +kernel⟩
theorem nat_mem {j : Nat} {zs : List Nat} : (j : Int) ∈ zs.map (fun (z : Nat) => (z : Int)) ↔ j ∈ zs := by
  constructor
  · intro h
    obtain ⟨z, hz, e⟩ := List.mem_map.mp h
    have : z = j := by omega
    rw [← this]; exact hz
  · exact fun h => List.mem_map.mpr ⟨j, h, rfl⟩
theorem natV_ints (zs : List Nat) : natV zs = (zs.map fun (z : Nat) => (z : Int)).map V.int := by unfold natV; rw [List.map_map] <;> rfl
theorem bad_in {x : Wd} (h : x.look = true ∨ x = .set ∨ x = .upt) : inV (.str x.str) [.str "cut", .str "skip", .str "refuse"] = false := by
  cases x <;> first | decide +kernel | (rcases h with h | h | h <;> exact nomatch h)
section
variable {P : Program} {w : World} {K : PySem.W.Frag} {mg : Str → Option Value} {base : Heap} {CR rd : Addr}
def spCkw : Sp := fun vs H Q _ => ∃ (lt : Addr) (xs : List Addr) (R : Rd), vs = [.ref lt] ∧ H lt = some (.tup (xs.map V.ref)) ∧ LnsAt No H (nmV R.nm) true xs R ∧ WF R ∧ ∀ (H' : Hp), Same H H' → Q .non H'
theorem ok_ckw {f : Addr} {fd : FuncData} (F : L2.Fun K "check_ways" "check_ways" (topS 27) f fd) (m : mg "check_ways" = some (.ref f)) (b : Binds K fd ["lines"] []) (G : Gm K mg) (c_silent_ways : C8.Cal P w K mg base 2 "silent_ways" spSw []) (c_reached : C8.Cal P w K mg base 1 "reached" spRch []) : C8.Cal P w K mg base 3 "check_ways" spCkw [] := by
  refine calN F m b sccheck_ways (fun vs H Q E h => ?_) (fun cdv A outer s H vs Q E hr h => ?_)
  · obtain ⟨lt, xs, R, rfl, _⟩ := h
    rfl
  obtain ⟨lt, xs, R, rfl, hlt, hxs, wf, q⟩ := h
  refine ⟨_, (pss_cons (ps_set (i := 1) sccheck_ways.nd rfl (Or.inl rfl) (C8.pe_c c_silent_ways hr (by decide) rfl (pa_cons (pv 0) pa_nil))) (pss_cons (ps_for PassesOwn.never rfl (pi_range1 rfl G.range (pa_cons (pe_callB k_len (by rfl) G.len PySem.boot_len (pa_cons (pv 0) pa_nil)) pa_nil)) (pg_name (i := 2) sccheck_ways.nd rfl (Or.inl rfl)) (pss_one (ps_if (pt_cmpR op_in_seq (pv 2) (C8.pe_c c_reached hr (by decide) rfl (pa_cons (pv 1) (pa_cons (pv 2) pa_nil))) (by rfl)) (pss_one ps_never) pss_nil))) (pss_cons (ps_set (i := 3) sccheck_ways.nd rfl (Or.inl rfl) (pe_op k_cat (pe_lst (pa_cons pe_int pa_nil)) (C8.pe_c c_reached hr (by decide) rfl (pa_cons (pv 1) (pa_cons pe_int pa_nil))))) (pss_one (ps_for PassesOwn.never rfl (k_enumT (by rfl) G.enumerate (pa_cons (pv 0) pa_nil)) (pg_tup rfl (pgs_cons (pg_name (i := 2) sccheck_ways.nd rfl (Or.inl rfl)) (pgs_cons (pg_tup rfl (pgs_cons (pg_name (i := 4) sccheck_ways.nd rfl (Or.inl rfl)) (pgs_cons (pg_name (i := 5) sccheck_ways.nd rfl (Or.inl rfl)) pgs_nil))) pgs_nil))) (pss_one (ps_if (PW.pt (pw_and (pt_cmpR op_in_seq (pv 2) (pv 3) (by rfl)) (pw_and1 (pt_cmpR op_in_seq (pe_ix ix_tup (pv 5) pe_int (fun _ _ => rfl)) (pe_tup (pa_cons pe_str (pa_cons pe_str (pa_cons pe_str pa_nil)))) (by rfl))))) (pss_one ps_never) pss_nil))))))), ?_⟩
  rw [show L2.start Nsccheck_ways [.ref lt] = [some (.ref lt), none, none, none, none, none] from rfl]; try simp only [cxK, cxK2, cxP, cxW, cxPn, cxWn]
  have hx0 : xs.length = R.ln.length := hxs.1
  have hle : R.ln.length ≤ 8 := by have h := wf.ws.le; rw [ws_len] at h; exact h
  repeat walk_at "s"
  refine ⟨lt, xs, R, rfl, hlt, hxs, wf, fun wy H1 s1 hw1 => ?_⟩
  have hlt1 := s1 _ _ hlt
  repeat walk_at "s"
  rw [List.length_map, hx0]
  refine x_Rg1 (by omega) (by omega) ?_
  refine x_ForR (m := R.ln.length) (by omega) (fun j σ H' => ∃ (x2 : Option V), σ = [some (.ref lt), some (.ref wy), x2, none, none, none] ∧ Same H1 H') ?_ ?_ ?_
  · exact ⟨none, rfl, Same.refl _⟩
  · rintro j σ H2 hj ⟨x2, rfl, s2⟩
    rw [show (0 : Int) + (j : Int) = (j : Int) by omega]
    repeat walk_at "s"
    refine ⟨wy, R, j, rfl, hw1.up s2, wf, hj, fun a zs H3 s3 ha hz8 hz => ?_⟩
    rw [natV_ints] at ha
    repeat walk_at "s"
    refine x_no (decide_eq_false fun h => rch_not (hz j (nat_mem.mp h))) ?_
    repeat walk_at "s"
    exact ⟨_, rfl, s2.trans s3⟩
  · rintro σ H2 ⟨x2, rfl, s2⟩
    repeat walk_at "s"
    intro u0 H3 n3
    have s13 := s2.trans n3.same
    repeat walk_at "s"
    refine ⟨wy, R, 0, rfl, hw1.up s13, wf, len_pos wf, fun a zs H4 s4 ha hz8 hz => ?_⟩
    have hu4 := s4 _ _ n3.at_
    refine x_cat hu4 ha (by unfold natV; rw [List.length_map, sizeLine_eq]; show 1 + zs.length ≤ _; omega) fun bg H5 n5 => ?_
    have e : [V.int 0] ++ natV zs = ((0 :: zs).map fun (z : Nat) => (z : Int)).map V.int := by rw [natV_ints] <;> rfl
    rw [e] at n5
    have hbg := n5.at_
    have s15 : Same H1 H5 := (s13.trans s4).trans n5.same
    have hlt5 := s15 _ _ hlt1
    repeat walk_at "s"
    refine x_ForET (SqT.of hlt5) (fun j σ H' => ∃ (x2 x4 x5 : Option V), σ = [some (.ref lt), some (.ref wy), x2, some (.ref bg), x4, x5] ∧ Same H5 H') ?_ ?_ ?_ ?_
    · exact ⟨_, _, _, rfl, Same.refl _⟩
    · rintro i σ H' _ ⟨_, _, _, _, s'⟩
      exact SqT.of (s' _ _ hlt5)
    · rintro j x σ H6 H7 T hx ⟨y2, y4, y5, rfl, s6⟩ n7
      obtain ⟨r, hr', rfl⟩ := map_some hx
      obtain ⟨l, la, hl, g1, ⟨wa, b1, b2⟩⟩ := pair_at wf hxs hr'
      have s07 : Same H H7 := (((s1.trans s15).trans s6).trans n7.same)
      have g17 := s07 _ _ g1
      have la7 := s07 _ _ b1.h
      have hbg7 := n7.up (s6 _ _ hbg)
      have hT := n7.at_
      have hv0 : atI (l.row (nmV R.nm) wa) 0 = some (.str l.wd.str) := atI_nat (j := 0) (row0 _ _ _)
      repeat walk_at "s"
      refine x_ite (fun hm => ?_) (fun hm => ?_)
      · have hgood : l.wd.look = true ∨ l.wd = .set ∨ l.wd = .upt := by
          rcases List.mem_cons.mp (nat_mem.mp hm) with e | hm
          · subst e
            exact wf.ws.fst _ (ws_get hl)
          · obtain ⟨_, h2 | h2, _⟩ := hz j hm
            · obtain ⟨x, e1, e2⟩ := h2
              rw [ws_get hl] at e1
              cases e1
              exact .inl e2
            · omega
        repeat walk_at "s"
        intro tp H8 n8
        repeat walk_at "s"
        refine x_no (bad_in hgood) ?_
        repeat walk_at "s"
        exact ⟨_, _, _, rfl, (s6.trans n7.same).trans n8.same⟩
      · repeat walk_at "s"
        exact ⟨_, _, _, rfl, s6.trans n7.same⟩
    · rintro σ H6 ⟨y2, y4, y5, rfl, s6⟩
      exact q H6 ((s1.trans s15).trans s6)
end
end
end K21
end

section
set_option maxRecDepth 100000
set_option maxHeartbeats 4000000
namespace K21
open PySem PySem.Spec PyProof.Rows L2
noncomputable section
local macro_rules | `(tactic| walk_at "hp") => `(tactic| first
  | assumption
  | ((with_reducible refine' At.h ?q); (case q => assumption))
  | ((with_reducible refine' New.at_ ?q); (case q => assumption))
  | ((with_reducible refine' Chg.at_ ?q); (case q => assumption))
  | ((with_reducible refine' New.up ?n ?q); (case n => assumption); (case q => walk_at "hp"))
  | ((with_reducible refine' Same.up ?n ?q); (case n => assumption); (case q => walk_at "hp")))
local macro_rules | `(tactic| walk_at "sz") => `(tactic| first | exact Nat.le_of_ble_eq_true rfl | assumption | omega)
local macro_rules | `(tactic| walk_at "i") => `(tactic| first
  | with_reducible refine' x_I0 ?_
  | ((with_reducible refine' x_I ?c ?_); (case c => first | assumption | (show (_ : Int) ≠ 0; omega) | exact .inr ⟨by decide, by decide⟩ | exact .inl ⟨by decide, by decide⟩ | (refine ⟨?_, ?_⟩ <;> first | decide | omega)))
  | with_reducible refine' x_eqI ?_
  | with_reducible refine' x_neI ?_
  | with_reducible refine' x_eqS ?_
  | with_reducible refine' x_neS ?_
  | with_reducible refine' x_isN ?_
  | with_reducible refine' x_notN ?_
  | with_reducible refine' x_U ?_
  | with_reducible refine' x_int ?_
  | with_reducible refine' x_intB ?_
  | with_reducible refine' x_min2 ?_
  | with_reducible refine' x_max2 ?_
  | ((with_reducible refine' x_ixLh ?h ?v ?_); (case h => walk_at "hp"); (case v => first | exact rfl | assumption))
  | ((with_reducible refine' x_ixTh ?h ?v ?_); (case h => walk_at "hp"); (case v => first | exact rfl | assumption))
  | ((with_reducible refine' x_lenL ?h ?_); (case h => walk_at "hp"))
  | ((with_reducible refine' x_lenT ?h ?_); (case h => walk_at "hp"))
  | ((with_reducible refine' x_gtuph ?h ?l ?_); (case h => walk_at "hp"); (case l => exact rfl))
  | ((with_reducible refine' x_BmAh ?h ?_); (case h => walk_at "hp"))
  | ((with_reducible refine' x_BmA0h ?h ?_); (case h => walk_at "hp"))
  | ((with_reducible refine' x_inStr ?h ?_); (case h => walk_at "hp"))
  | ((with_reducible refine' x_ninStr ?h ?_); (case h => walk_at "hp"))
  | ((with_reducible refine' x_inInt ?h ?_); (case h => walk_at "hp"))
  | ((with_reducible refine' x_ninInt ?h ?_); (case h => walk_at "hp"))
  | ((with_reducible refine' x_inL ?h ?f ?g ?_); (case h => walk_at "hp"); (case f => exact rfl); (case g => first | exact rfl | assumption))
  | ((with_reducible refine' x_inR ?h ?f ?g ?_); (case h => assumption); (case f => exact rfl); (case g => exact rfl))
  | ((with_reducible refine' x_inT ?h ?f ?g ?_); (case h => walk_at "hp"); (case f => exact rfl); (case g => first | exact rfl | assumption))
  | ((with_reducible refine' x_notInL ?h ?f ?g ?_); (case h => walk_at "hp"); (case f => exact rfl); (case g => first | exact rfl | assumption))
  | ((with_reducible refine' x_setL ?h ?j ?_); (case h => walk_at "hp"); (case j => first | exact rfl | assumption))
  | ((with_reducible refine' x_append ?h ?l ?_); (case h => walk_at "hp"); (case l => walk_at "sz"))
  | ((with_reducible refine' x_neNil ?h ?g ?_); (case h => walk_at "hp"); (case g => walk_at "hp"))
  | ((with_reducible refine' x_eqNil ?h ?g ?_); (case h => walk_at "hp"); (case g => walk_at "hp"))
  | ((with_reducible refine' x_DgA ?h ?v ?_); (case h => walk_at "hp"); (case v => first | exact stK_at _ _ _ | exact bkK_first _ _ | exact bkK_lines _ _ | exact stK_kept _ _ _ | exact stK_left _ _ _ | assumption))
  | ((with_reducible refine' x_FldA ?h ?c ?n ?l ?_); (case h => walk_at "hp"); (case c => assumption); (case n => assumption); (case l => first | exact rfl | assumption))
  | ((with_reducible refine' x_truL ?h ?_); (case h => walk_at "hp"))
  | ((with_reducible refine' x_truT ?h ?_); (case h => walk_at "hp"))
  | ((with_reducible refine' x_kTupL ?h ?_); (case h => walk_at "hp"))
  | ((with_reducible refine' x_kTupT ?h ?_); (case h => walk_at "hp"))
  | ((with_reducible refine' x_idx ?h ?n ?x ?_); (case h => walk_at "hp"); (case n => assumption); (case x => assumption))
  | ((with_reducible refine' x_SFldA ?h ?c ?n ?l ?_); (case h => walk_at "hp"); (case c => assumption); (case n => assumption); (case l => exact Nat.le_of_ble_eq_true rfl))
  | with_reducible refine' x_MkA ?_
  | ((with_reducible refine' x_lsL ?h ?_); (case h => walk_at "hp"))
  | ((with_reducible refine' x_lsT ?h ?_); (case h => walk_at "hp"))
  | with_reducible refine' x_CmA ?_
  | with_reducible refine' x_inSg ?_
  | ((with_reducible refine' x_lenS ?h ?_); (case h => assumption))
  | ((with_reducible refine' x_DspS ?h ?_); (case h => walk_at "hp"))
  | ((with_reducible refine' x_AlT ?h ?_); (case h => walk_at "sz"))
  | ((with_reducible refine' x_AlL ?h ?_); (case h => walk_at "sz"))
  | ((with_reducible refine' x_Rg1 ?a ?b ?_); (case a => omega); (case b => omega))
  | ((with_reducible refine' x_Rg2 ?a ?b ?c ?d ?_); (case a => omega); (case b => omega); (case c => omega); (case d => omega))
  | with_reducible refine' x_AlO ?_)
local macro_rules | `(tactic| walk_at "s") => `(tactic| first
  | with_reducible refine' x_seq ?_
  | with_reducible refine' x_asg ?_
  | with_reducible refine' x_gname ?_
  | ((with_reducible refine' x_var ?h ?_); (case h => exact rfl))
  | with_reducible refine' x_c ?_
  | with_reducible refine' x_op ?_
  | with_reducible refine' x_cons ?_
  | with_reducible refine' x_nil ?_
  | with_reducible refine' x_cb ?_
  | with_reducible refine' x_ret ?_
  | with_reducible refine' x_ifS ?_
  | with_reducible refine' x_test ?_
  | with_reducible refine' x_B ?_
  | with_reducible refine' x_bl ?_
  | with_reducible refine' x_if ?_
  | with_reducible refine' x_call ?_
  | with_reducible refine' x_tup ?_
  | with_reducible refine' x_lst ?_
  | with_reducible refine' x_gcons ?_
  | with_reducible refine' x_gnil ?_
  | with_reducible refine' x_gsub ?_
  | with_reducible refine' x_next ?_
  | with_reducible refine' x_drop ?_
  | with_reducible refine' x_and ?_
  | with_reducible refine' x_or ?_
  | with_reducible refine' x_not ?_
  | with_reducible refine' x_andV ?_
  | with_reducible refine' x_orV ?_
  | with_reducible refine' x_un ?_
  | with_reducible refine' x_chain ?_
  | with_reducible refine' x_sfld ?_
  | with_reducible refine' x_par ?_
  | with_reducible refine' x_par2 ?_
  | with_reducible refine' x_par3 ?_
  | with_reducible refine' x_par33 ?_
  | with_reducible refine' x_fld ?_
  | with_reducible refine' x_meth ?_
  | with_reducible refine' x_bm ?_
  | with_reducible refine' x_bm0 ?_
  | with_reducible refine' x_forL ?_
  | with_reducible refine' x_forT ?_
  | with_reducible refine' x_forR1 ?_
  | with_reducible refine' x_forET ?_
  | with_reducible refine' x_thn ?_
  | with_reducible refine' x_lcS ?_
  | with_reducible refine' x_cm ?_
  | ((with_reducible refine' x_mkv ?h ?_); (case h => exact rfl))
  | with_reducible refine' x_mk ?_
  | with_reducible refine' x_forEL ?_
  | with_reducible refine' x_forR2 ?_
  | with_reducible refine' x_lcL ?_
  | with_reducible refine' x_lcT ?_
  | with_reducible refine' x_lcR1 ?_
  | with_reducible refine' x_lcR2 ?_
  | with_reducible refine' x_dnew ?_
  | with_reducible refine' x_retN ?_
  | with_reducible refine' x_ff ?_
  | with_reducible refine' x_lrg1 ?_
  | with_reducible refine' x_disp ?_
  | with_reducible refine' x_pnil ?_
  | with_reducible refine' x_pcons ?_
  | with_reducible refine' x_dget ?_
  | with_reducible refine' x_dput ?_
  | with_reducible refine' x_dnewN ?_
  | with_reducible refine' x_nin ?_
  | with_reducible refine' x_nget ?_
  | with_reducible refine' x_nput ?_
  | ((with_reducible refine' x_yes ?e ?_); (case e => first | decide +kernel | exact not_int_non _ | exact not_str_non _))
  | ((with_reducible refine' x_no ?e ?_); (case e => first | decide +kernel | exact int_non _ | exact str_non _ | exact rfl))
  | with_reducible refine' x_lrg2 ?_
  | with_reducible refine' x_tt ?_
  | with_reducible refine' x_break ?_
  | walk_at "i")

theorem LnsAt.chgT {S : Addr → Prop} {H H' : Hp} {D : Addr} {acc : List V} {o : HO} {f : Nat → V} {xs : List Addr} {R : Rd} (h : LnsAt S H f true xs R) (hD : H D = some (.lst acc)) (c : Chg H H' D o) : LnsAt S H' f true xs R := ⟨h.1, fun i x n l a b d => by
  obtain ⟨la, h1, h2⟩ := h.2 i x n l a b d
  exact ⟨la, h1.chgT hD c, h2.chgT hD c⟩⟩
theorem dom_up {S : Addr → Prop} {H H' : Hp} (h : ∀ b, S b → H b ≠ none) (s : Same H H') : ∀ b, S b → H' b ≠ none := fun b hb z => by
  obtain ⟨o', ho⟩ := Option.ne_none_iff_exists'.mp (h b hb)
  rw [s _ _ ho] at z
  exact nomatch z
section
variable {P : Program} {w : World} {K : PySem.W.Frag} {mg : Str → Option Value} {base : Heap} {CR rd : Addr}
def spRdinit (CR : Addr) : Sp := fun vs H Q _ => ∃ (S : Addr → Prop) (x dx a : Addr) (xs : List Addr) (R : Rd), vs = [.ref x, .ref a] ∧ H x = some (.ins CR dx []) ∧ ¬ S x ∧ H a = some (.lst (xs.map V.ref)) ∧ LnsAt S H (nmV R.nm) false xs R ∧ WF R ∧ (∀ b, S b → H b ≠ none) ∧
  ∀ H', (∀ b o, b ≠ x → H b = some o → H' b = some o) → RdAt S H' CR x R → Q .non H'
theorem ok_rdinit {f : Addr} {fd : FuncData} (F : L2.Fun K "__init__" "Reader.__init__" (inC 28 0) f fd) (G : Gm K mg) (CRok : RcOk K CR) (c_check_lines : C8.Cal P w K mg base 3 "check_lines" spCkl []) (c_tidy_line : C8.Cal P w K mg base 1 "tidy_line" spTidy [])
    (c_check_ways : C8.Cal P w K mg base 3 "check_ways" spCkw []) : FnOk P w K mg base C8.CX0 4 f fd ["self", "lines"] (spRdinit CR) := by
  refine fnN F scReader___init__ (fun vs H Q E h => ?_) (fun cdv A outer s H vs Q E hr h => ?_)
  · obtain ⟨S, x, dx, a, xs, R, rfl, _⟩ := h
    rfl
  obtain ⟨S, x, dx, a, xs, R, rfl, hx, hSx, ha, hxs, wf, hS, q⟩ := h
  refine ⟨_, (pss_cons (ps_if (pt_cmpR op_gt (pe_callB k_len (by rfl) G.len PySem.boot_len (pa_cons (pv 1) pa_nil)) (C8.pe_gc rfl G.MOST_LINES) (nomark _)) (pss_one ps_never) pss_nil) (pss_cons (ps_if (pt_not (pt_truth (pv 1) (by intro _; rfl))) (pss_one ps_never) pss_nil) (pss_cons (ps_expr (C8.pe_c c_check_lines hr (by decide) rfl (pa_cons (pv 1) pa_nil))) (pss_cons (ps_fld (pv 0) (pe_tupleOf rfl G.tuple (pe_lc (own := [("name", 2), ("line", 3)]) rfl scReader___init__.nd (pi_list (pv 1)) (blkOk_by (own := [("name", 2), ("line", 3)]) (N := NscReader___init__) (sc := defScope (inC 28 0)) (by decide +kernel)) (fun _ _ _ _ _ => (b_gtup (K := K) (n := 2) rfl rfl (pgs_cons (pg_name (i := 2) scReader___init__.nd rfl (Or.inl rfl)) (pgs_cons (pg_name (i := 3) scReader___init__.nd rfl (Or.inl rfl)) pgs_nil)))) (fun _ _ _ _ _ => pts_nil) (fun _ _ _ _ _ => (pe_tup (pa_cons (pv 2) (pa_cons (C8.pe_c c_tidy_line hr (by decide) rfl (pa_cons (pv 3) pa_nil)) pa_nil)))))) rfl) (pss_one (ps_expr (C8.pe_c c_check_ways hr (by decide) rfl (pa_cons (pe_fld (pv 0) rfl) pa_nil)))))))), ?_⟩
  rw [show L2.start NscReader___init__ [.ref x, .ref a] = [some (.ref x), some (.ref a), none, none] from rfl]; try simp only [cxK, cxK2, cxP, cxW, cxPn, cxWn]
  obtain ⟨cr1, cr2⟩ := CRok
  have hx0 : xs.length = R.ln.length := hxs.1
  have hps := len_pos wf
  have hnl := wf.len
  have hle : R.ln.length ≤ 8 := by have h := wf.ws.le; rw [ws_len] at h; exact h
  have hne : (!(xs.map V.ref).isEmpty) = true := by
    cases xs with
    | nil => simp at hx0; omega
    | cons y ys => rfl
  have h8 : ¬ ((8 : Int) < ((xs.map V.ref).length : Int)) := by rw [List.length_map]; omega
  repeat walk_at "s"
  refine x_no (decide_eq_false h8) ?_
  repeat walk_at "s"
  rw [hne]
  repeat walk_at "s"
  refine ⟨a, xs, R, rfl, ha, hxs.sub noSub, wf, fun H1 s1 => ?_⟩
  have ha1 := s1 _ _ ha
  repeat walk_at "s"
  refine x_LcL (SqL.of ha1) (fun D i H' => H1 D = none ∧ Same H1 H' ∧ ∃ qs : List Addr, H' D = some (.lst (qs.map V.ref)) ∧ LnsAt S H' (nmV R.nm) true qs ⟨R.nm, R.ln.take i⟩) ?_ ?_ ?_ ?_
  · intro D H2 n2
    exact ⟨n2.fresh, n2.same, [], n2.at_, rfl, fun i x n l h => nomatch h⟩
  · rintro D i H' _ ⟨_, s', _⟩
    exact SqL.of (s' _ _ ha1)
  · rintro D i y H2 hy ⟨hD, s2, qs, hD2, hqs⟩
    obtain ⟨r, hr', rfl⟩ := map_some hy
    obtain ⟨l, la, hl, g1, _⟩ := pair_at wf (hxs.sub noSub) hr'
    obtain ⟨la', g2, g3⟩ := hxs.2 i r (nmS R i) l hr' (nm_at R (by have := get_lt hr'; omega)) hl
    have : la' = la := by
      have := g2.h
      rw [g1] at this
      cases this
      rfl
    subst this
    have s02 := s1.trans s2
    have g1' := s02 _ _ g1
    have hi := get_lt hr'
    have hql : qs.length = i := by have h : qs.length = (R.ln.take i).length := hqs.1; rw [List.length_take] at h; omega
    repeat walk_at "s"
    refine x_LcY rfl ?_
    repeat walk_at "s"
    refine ⟨S, la', l, nmV R.nm, rfl, g3.up (Kp.same s02), wf.par i l hl, dom_up hS s02, fun lb H3 s3 hlb => ?_⟩
    have hD3 := s3 _ _ hD2
    have hS3 := dom_up hS (s02.trans s3)
    repeat walk_at "s"
    intro e H4 n4
    have hD4 := n4.up hD3
    refine x_App hD4 (by rw [List.length_map, sizeLine_eq]; omega) fun H5 c5 => ⟨hD, Same.chg ((s2.trans s3).trans n4.same) hD c5, qs ++ [e], by rw [List.map_append]; exact c5.at_, ?_⟩
    rw [List.take_add_one, hl]
    have htl : (R.ln.take i).length = i := by rw [List.length_take]; omega
    exact (LnsAt.snoc (n := nmS R i) (la := lb) ((hqs.up (Kp.same s3)).up n4.kp) (by rw [htl]; exact nm_at R (by omega)) (n4.atS hS3) (hlb.up n4.kp)).chgT hD4 c5
  · rintro D H2 ⟨hD, s2, qs, hD2, hqs⟩
    have e : R.ln.take (xs.map V.ref).length = R.ln := by rw [List.length_map, hx0, List.take_length]
    rw [e] at hqs
    have hS2 := dom_up hS (s1.trans s2)
    have hx2 := s2 _ _ (s1 _ _ hx)
    repeat walk_at "s"
    intro lt H3 n3
    have hx3 := n3.up hx2
    repeat walk_at "s"
    intro H4 c4
    have hx4 := c4.at_
    have tk : ∀ {z : Addr} {ys : List V}, At S H3 z (.tup ys) → At S H4 z (.tup ys) := fun h => ⟨c4.up (ne_of h.1 hx3 (fun z => nomatch z)) h.1, h.2⟩
    have hlt4 := tk (n3.atS hS2)
    have hqs4 : LnsAt S H4 (nmV R.nm) true qs R := by
      have h3 := hqs.up n3.kp
      refine ⟨h3.1, fun i y n l b1 b2 b3 => ?_⟩
      obtain ⟨la, f1, wa, f2, f3⟩ := h3.2 i y n l b1 b2 b3
      refine ⟨la, tk f1, wa, tk f2, fun ws o e => ?_⟩
      obtain ⟨rs, d1, d2⟩ := f3 ws o e
      exact ⟨rs, tk (ys := rs.map V.ref) d1, d2.1, fun i r y b1 b2 => tk (d2.2 i r y b1 b2)⟩
    have hlt4' := hlt4.h
    repeat walk_at "s"
    refine ⟨lt, qs, R, rfl, hlt4', hqs4.sub noSub, wf, fun H5 s5 => ?_⟩
    repeat walk_at "s"
    exact q H5 (fun b o hb h => s5 _ _ (c4.up hb (n3.up (s2 _ _ (s1 _ _ h))))) ⟨dx, lt, qs, ⟨s5 _ _ hx4, hSx⟩, hlt4.up (Kp.same s5), hqs4.up (Kp.same s5)⟩
end
end
end K21
end

section
set_option maxRecDepth 100000
set_option maxHeartbeats 4000000
namespace K21
open PySem PySem.Spec PyProof.Rows L2
noncomputable section
local macro_rules | `(tactic| walk_at "hp") => `(tactic| first
  | assumption
  | ((with_reducible refine' At.h ?q); (case q => assumption))
  | ((with_reducible refine' New.at_ ?q); (case q => assumption))
  | ((with_reducible refine' Chg.at_ ?q); (case q => assumption))
  | ((with_reducible refine' New.up ?n ?q); (case n => assumption); (case q => walk_at "hp"))
  | ((with_reducible refine' Same.up ?n ?q); (case n => assumption); (case q => walk_at "hp")))
local macro_rules | `(tactic| walk_at "sz") => `(tactic| first | exact Nat.le_of_ble_eq_true rfl | assumption | omega)
local macro_rules | `(tactic| walk_at "i") => `(tactic| first
  | with_reducible refine' x_I0 ?_
  | ((with_reducible refine' x_I ?c ?_); (case c => first | assumption | (show (_ : Int) ≠ 0; omega) | exact .inr ⟨by decide, by decide⟩ | exact .inl ⟨by decide, by decide⟩ | (refine ⟨?_, ?_⟩ <;> first | decide | omega)))
  | with_reducible refine' x_eqI ?_
  | with_reducible refine' x_neI ?_
  | with_reducible refine' x_eqS ?_
  | with_reducible refine' x_neS ?_
  | with_reducible refine' x_isN ?_
  | with_reducible refine' x_notN ?_
  | with_reducible refine' x_U ?_
  | with_reducible refine' x_int ?_
  | with_reducible refine' x_intB ?_
  | with_reducible refine' x_min2 ?_
  | with_reducible refine' x_max2 ?_
  | ((with_reducible refine' x_ixLh ?h ?v ?_); (case h => walk_at "hp"); (case v => first | exact rfl | assumption))
  | ((with_reducible refine' x_ixTh ?h ?v ?_); (case h => walk_at "hp"); (case v => first | exact rfl | assumption))
  | ((with_reducible refine' x_lenL ?h ?_); (case h => walk_at "hp"))
  | ((with_reducible refine' x_lenT ?h ?_); (case h => walk_at "hp"))
  | ((with_reducible refine' x_gtuph ?h ?l ?_); (case h => walk_at "hp"); (case l => exact rfl))
  | ((with_reducible refine' x_BmAh ?h ?_); (case h => walk_at "hp"))
  | ((with_reducible refine' x_BmA0h ?h ?_); (case h => walk_at "hp"))
  | ((with_reducible refine' x_inStr ?h ?_); (case h => walk_at "hp"))
  | ((with_reducible refine' x_ninStr ?h ?_); (case h => walk_at "hp"))
  | ((with_reducible refine' x_inInt ?h ?_); (case h => walk_at "hp"))
  | ((with_reducible refine' x_ninInt ?h ?_); (case h => walk_at "hp"))
  | ((with_reducible refine' x_inL ?h ?f ?g ?_); (case h => walk_at "hp"); (case f => exact rfl); (case g => first | exact rfl | assumption))
  | ((with_reducible refine' x_inR ?h ?f ?g ?_); (case h => assumption); (case f => exact rfl); (case g => exact rfl))
  | ((with_reducible refine' x_inT ?h ?f ?g ?_); (case h => walk_at "hp"); (case f => exact rfl); (case g => first | exact rfl | assumption))
  | ((with_reducible refine' x_notInL ?h ?f ?g ?_); (case h => walk_at "hp"); (case f => exact rfl); (case g => first | exact rfl | assumption))
  | ((with_reducible refine' x_setL ?h ?j ?_); (case h => walk_at "hp"); (case j => first | exact rfl | assumption))
  | ((with_reducible refine' x_append ?h ?l ?_); (case h => walk_at "hp"); (case l => walk_at "sz"))
  | ((with_reducible refine' x_neNil ?h ?g ?_); (case h => walk_at "hp"); (case g => walk_at "hp"))
  | ((with_reducible refine' x_eqNil ?h ?g ?_); (case h => walk_at "hp"); (case g => walk_at "hp"))
  | ((with_reducible refine' x_DgA ?h ?v ?_); (case h => walk_at "hp"); (case v => first | exact stK_at _ _ _ | exact bkK_first _ _ | exact bkK_lines _ _ | exact stK_kept _ _ _ | exact stK_left _ _ _ | assumption))
  | ((with_reducible refine' x_FldA ?h ?c ?n ?l ?_); (case h => walk_at "hp"); (case c => assumption); (case n => assumption); (case l => first | exact rfl | assumption))
  | ((with_reducible refine' x_truL ?h ?_); (case h => walk_at "hp"))
  | ((with_reducible refine' x_truT ?h ?_); (case h => walk_at "hp"))
  | ((with_reducible refine' x_kTupL ?h ?_); (case h => walk_at "hp"))
  | ((with_reducible refine' x_kTupT ?h ?_); (case h => walk_at "hp"))
  | ((with_reducible refine' x_idx ?h ?n ?x ?_); (case h => walk_at "hp"); (case n => assumption); (case x => assumption))
  | ((with_reducible refine' x_SFldA ?h ?c ?n ?l ?_); (case h => walk_at "hp"); (case c => assumption); (case n => assumption); (case l => exact Nat.le_of_ble_eq_true rfl))
  | with_reducible refine' x_MkA ?_
  | ((with_reducible refine' x_lsL ?h ?_); (case h => walk_at "hp"))
  | ((with_reducible refine' x_lsT ?h ?_); (case h => walk_at "hp"))
  | with_reducible refine' x_CmA ?_
  | with_reducible refine' x_inSg ?_
  | ((with_reducible refine' x_lenS ?h ?_); (case h => assumption))
  | ((with_reducible refine' x_DspS ?h ?_); (case h => walk_at "hp"))
  | ((with_reducible refine' x_AlT ?h ?_); (case h => walk_at "sz"))
  | ((with_reducible refine' x_AlL ?h ?_); (case h => walk_at "sz"))
  | ((with_reducible refine' x_Rg1 ?a ?b ?_); (case a => omega); (case b => omega))
  | ((with_reducible refine' x_Rg2 ?a ?b ?c ?d ?_); (case a => omega); (case b => omega); (case c => omega); (case d => omega))
  | with_reducible refine' x_AlO ?_)
local macro_rules | `(tactic| walk_at "s") => `(tactic| first
  | with_reducible refine' x_seq ?_
  | with_reducible refine' x_asg ?_
  | with_reducible refine' x_gname ?_
  | ((with_reducible refine' x_var ?h ?_); (case h => exact rfl))
  | with_reducible refine' x_c ?_
  | with_reducible refine' x_op ?_
  | with_reducible refine' x_cons ?_
  | with_reducible refine' x_nil ?_
  | with_reducible refine' x_cb ?_
  | with_reducible refine' x_ret ?_
  | with_reducible refine' x_ifS ?_
  | with_reducible refine' x_test ?_
  | with_reducible refine' x_B ?_
  | with_reducible refine' x_bl ?_
  | with_reducible refine' x_if ?_
  | with_reducible refine' x_call ?_
  | with_reducible refine' x_tup ?_
  | with_reducible refine' x_lst ?_
  | with_reducible refine' x_gcons ?_
  | with_reducible refine' x_gnil ?_
  | with_reducible refine' x_gsub ?_
  | with_reducible refine' x_next ?_
  | with_reducible refine' x_drop ?_
  | with_reducible refine' x_and ?_
  | with_reducible refine' x_or ?_
  | with_reducible refine' x_not ?_
  | with_reducible refine' x_andV ?_
  | with_reducible refine' x_orV ?_
  | with_reducible refine' x_un ?_
  | with_reducible refine' x_chain ?_
  | with_reducible refine' x_sfld ?_
  | with_reducible refine' x_par ?_
  | with_reducible refine' x_par2 ?_
  | with_reducible refine' x_par3 ?_
  | with_reducible refine' x_par33 ?_
  | with_reducible refine' x_fld ?_
  | with_reducible refine' x_meth ?_
  | with_reducible refine' x_bm ?_
  | with_reducible refine' x_bm0 ?_
  | with_reducible refine' x_forL ?_
  | with_reducible refine' x_forT ?_
  | with_reducible refine' x_forR1 ?_
  | with_reducible refine' x_forET ?_
  | with_reducible refine' x_thn ?_
  | with_reducible refine' x_lcS ?_
  | with_reducible refine' x_cm ?_
  | ((with_reducible refine' x_mkv ?h ?_); (case h => exact rfl))
  | with_reducible refine' x_mk ?_
  | with_reducible refine' x_forEL ?_
  | with_reducible refine' x_forR2 ?_
  | with_reducible refine' x_lcL ?_
  | with_reducible refine' x_lcT ?_
  | with_reducible refine' x_lcR1 ?_
  | with_reducible refine' x_lcR2 ?_
  | with_reducible refine' x_dnew ?_
  | with_reducible refine' x_retN ?_
  | with_reducible refine' x_ff ?_
  | with_reducible refine' x_lrg1 ?_
  | with_reducible refine' x_disp ?_
  | with_reducible refine' x_pnil ?_
  | with_reducible refine' x_pcons ?_
  | with_reducible refine' x_dget ?_
  | with_reducible refine' x_dput ?_
  | with_reducible refine' x_dnewN ?_
  | with_reducible refine' x_nin ?_
  | with_reducible refine' x_nget ?_
  | with_reducible refine' x_nput ?_
  | ((with_reducible refine' x_yes ?e ?_); (case e => first | decide +kernel | exact not_int_non _ | exact not_str_non _))
  | ((with_reducible refine' x_no ?e ?_); (case e => first | decide +kernel | exact int_non _ | exact str_non _ | exact rfl))
  | with_reducible refine' x_lrg2 ?_
  | with_reducible refine' x_tt ?_
  | with_reducible refine' x_break ?_
  | walk_at "i")

def Nsclaw : List Str := ["_law_script", "_law_pen", "_law_turn", "_law_lines_here", "_law_near_here", "_law_one", "_law_other", "_law_k", "_law_runs_here", "_law_due", "_law_row"]
theorem sclaw : FnScope Nsclaw ["_law_script"] (defScope (topS 72)) := ⟨rfl, rfl, rfl, by decide +kernel, rfl, by decide +kernel, by decide +kernel⟩
theorem x_orT2 {σ : L2.St} {H : Hp} {Q : VK} {K : PySem.W.Frag} {ta tb : TE} (k : ta σ H fun x H1 => ∃ k, TruV K x H1 k ∧ if k = true then Q x H1 else tb σ H1 Q) : tOrT K ta tb σ H Q := k
theorem sqL_same {K : PySem.W.Frag} {H H' : Hp} {a : Addr} {xs : List V} (h : SqL K H a xs) (s : Same H H') : SqL K H' a xs := by
  rcases h with (h | ⟨o, h⟩) | h
  · exact .inl (.inl (s _ _ h))
  · exact .inl (.inr ⟨o, s _ _ h⟩)
  · exact .inr h
theorem x_neV {x y : V} {H : Hp} {Q : VK} (h : scal x y = true) (k : Q (.bl (!decide (x = y))) H) : rNe x y H Q := ⟨h, k⟩
theorem ans_scal (o : Option Nat) : scal (ansV o) (ansV o) = true := by cases o <;> rfl
section
variable {P : Program} {w : World} {K : PySem.W.Frag} {mg : Str → Option Value} {base : Heap} {CR CM CP CW rd : Addr}
theorem ok_law {f : Addr} {fd : FuncData} (F : L2.Fun K "law" "law" (topS 72) f fd) (G : Gm K mg) (g_Row : ∃ u, mg "Row" = some u ∧ RelV (.ref CW) u) (c__law_draw : C8.Cal P w K mg base 1 "_law_draw" spDraw []) (c__law_lines : C8.Cal P w K mg base 6 "_law_lines" spLines []) (c__law_near : C8.Cal P w K mg base 6 "_law_near" spNear [])
    (c__law_runs : C8.Cal P w K mg base 3 "_law_runs" spRuns []) (c__law_part : C8.Cal P w K mg base 6 "_law_part" spLpart []) (c__law_book : C8.Cal P w K mg base 1 "_law_book" spBook []) (m_Reader : C8.Mak P w K mg base 4 "Reader" CR (spRdinit CR) []) (cm_of_runs : CmR P w K mg base 4 CW "of_runs" (spOf CW))
    (c_parting_place : C8.Cal P w K mg base 9 "parting_place" (spPart CR CW) []) : FnOk P w K mg base C8.CX0 10 f fd ["_law_script"] (spLaw K) := by
  refine fnN F sclaw (fun vs H Q E h => ?_) (fun cdv A outer s H vs Q E hr h => ?_)
  · obtain ⟨a, zs, rfl, _⟩ := h
    rfl
  obtain ⟨a, zs, rfl, ha, hle, q⟩ := h
  refine ⟨_, (C8.pss_cut (ps_set (i := 1) sclaw.nd rfl (Or.inl rfl) (pe_lst (pa_cons (pe_orT (pe_callTy k_list (by rfl) G.list (by decide +kernel) (pa_cons (pv 0) pa_nil)) (pe_one (pe_lst (pa_cons pe_int pa_nil)))) (pa_cons pe_int pa_nil)))) (pss_cons (ps_for PassesOwn.never rfl (pi_range1 rfl G.range (pa_cons (pe_callB (k_max2 rfl) (by rfl) G.max (by decide +kernel) (pa_cons pe_int (pa_cons (pe_callB (k_min2 rfl) (by rfl) G.min (by decide +kernel) (pa_cons pe_int (pa_cons (pe_callB k_len (by rfl) G.len PySem.boot_len (pa_cons (pv 0) pa_nil)) pa_nil))) pa_nil))) pa_nil)) (pg_name (i := 2) sclaw.nd rfl (Or.inl rfl)) (pss_cons (ps_set (i := 3) sclaw.nd rfl (Or.inl rfl) (C8.pe_c c__law_lines hr (by decide) rfl (pa_cons (pv 1) (pa_cons pe_int pa_nil)))) (pss_cons (ps_set (i := 4) sclaw.nd rfl (Or.inl rfl) (C8.pe_c c__law_near hr (by decide) rfl (pa_cons (pv 1) (pa_cons (pv 3) pa_nil)))) (C8.pss_cut (ps_if (pt_cmpR op_eq (C8.pe_c c__law_draw hr (by decide) rfl (pa_cons (pv 1) (pa_cons pe_int pa_nil))) pe_int (nomark _)) (pss_one (ps_set (i := 4) sclaw.nd rfl (Or.inl rfl) (C8.pe_c c__law_near hr (by decide) rfl (pa_cons (pv 1) (pa_cons (pv 4) pa_nil))))) pss_nil) (pss_cons (ps_set (i := 5) sclaw.nd rfl (Or.inl rfl) (C8.pe_mk m_Reader hr (by decide) rfl (pa_cons (pv 3) pa_nil))) (pss_cons (ps_set (i := 6) sclaw.nd rfl (Or.inl rfl) (C8.pe_mk m_Reader hr (by decide) rfl (pa_cons (pv 4) pa_nil))) (pss_one (ps_for PassesOwn.never rfl (pi_range1 rfl G.range (pa_cons pe_int pa_nil)) (pg_name (i := 7) sclaw.nd rfl (Or.inl rfl)) (pss_cons (ps_set (i := 8) sclaw.nd rfl (Or.inl rfl) (C8.pe_c c__law_runs hr (by decide) rfl (pa_cons (pv 1) (pa_cons pe_int pa_nil)))) (pss_cons (ps_set (i := 9) sclaw.nd rfl (Or.inl rfl) (C8.pe_c c__law_part hr (by decide) rfl (pa_cons (pe_lst (pa_cons (C8.pe_c c__law_book hr (by decide) rfl (pa_cons (pv 3) pa_nil)) (pa_cons (C8.pe_c c__law_book hr (by decide) rfl (pa_cons (pv 4) pa_nil)) pa_nil))) (pa_cons (pv 8) pa_nil)))) (pss_cons (ps_set (i := 10) sclaw.nd rfl (Or.inl rfl) (pe_cm cm_of_runs hr (by decide) (C8.pe_gc rfl g_Row) (pa_cons (pv 8) pa_nil))) (pss_one (ps_if (PW.pt (pw_or (pt_cmpR op_ne (C8.pe_c c_parting_place hr (by decide) rfl (pa_cons (pv 5) (pa_cons (pv 6) (pa_cons (pv 10) pa_nil)))) (pv 9) (nomark _)) (pw_or1 (pt_cmpR op_ne (C8.pe_c c_parting_place hr (by decide) rfl (pa_cons (pv 6) (pa_cons (pv 5) (pa_cons (pv 10) pa_nil)))) (pv 9) (nomark _))))) (pss_one (ps_ret pe_bl)) pss_nil))))))))))))) (pss_one (ps_ret pe_bl)))), ?_⟩
  rw [show L2.start Nsclaw [.ref a] = [some (.ref a), none, none, none, none, none, none, none, none, none, none] from rfl]; try simp only [cxK, cxK2, cxP, cxW, cxPn, cxWn]
  refine x_cut (M := fun σ H' => ∃ pp ll, σ = [some (.ref a), some (.ref pp), none, none, none, none, none, none, none, none, none] ∧ Same H H' ∧ Pen H' pp ll 0) ?_ ?_
  · repeat walk_at "s"
    refine x_orT2 ?_
    repeat walk_at "s"
    refine ⟨a, _, rfl, .inl ha, fun p0 hp0 => ?_⟩
    have n2 : New H (upd H p0 (.lst (zs.map V.int))) p0 (.lst (zs.map V.int)) := New.of hp0
    generalize upd H p0 (.lst (zs.map V.int)) = H2 at n2 ⊢
    refine x_truL n2.at_ ?_
    refine x_iteB (fun hz => ?_) (fun hz => ?_)
    · repeat walk_at "s"
      intro pp H3 n3
      repeat walk_at "s"
      refine ⟨pp, p0, rfl, n2.same.trans n3.same, ⟨⟨zs, 0, n3.at_, n3.up n2.at_, ?_, by omega, by omega, by omega⟩, n3.ne n2.at_⟩⟩
      cases zs with
      | nil => exact nomatch hz
      | cons y ys => exact Nat.succ_pos _
    · repeat walk_at "s"
      intro p1 H3 n3
      repeat walk_at "s"
      intro pp H4 n4
      repeat walk_at "s"
      exact ⟨pp, p1, rfl, (n2.same.trans n3.same).trans n4.same, ⟨⟨[0], 0, n4.at_, n4.up n3.at_, by decide, by decide, by omega, by omega⟩, n4.ne n3.at_⟩⟩
  rintro σ H1 ⟨pp, ll, rfl, s1, hP1⟩
  have ha1 := sqL_same ha s1
  repeat walk_at "s"
  refine x_len (.inl ha1) ?_
  repeat walk_at "s"
  obtain ⟨nT, hnT, hT3⟩ : ∃ nT : Nat, (if (if ((List.map V.int zs).length : Int) < 3 then ((List.map V.int zs).length : Int) else 3) > 1 then (if ((List.map V.int zs).length : Int) < 3 then ((List.map V.int zs).length : Int) else 3) else 1) = (nT : Int) ∧ nT ≤ 3 :=
    ⟨(if (if ((List.map V.int zs).length : Int) < 3 then ((List.map V.int zs).length : Int) else 3) > 1 then (if ((List.map V.int zs).length : Int) < 3 then ((List.map V.int zs).length : Int) else 3) else 1).toNat, by split <;> split <;> omega, by split <;> split <;> omega⟩
  rw [hnT]
  refine x_ForR (m := nT) (by omega) (fun k σ H' => ∃ (x2 x3 x4 x5 x6 x7 x8 x9 x10 : Option V), σ = [some (.ref a), some (.ref pp), x2, x3, x4, x5, x6, x7, x8, x9, x10] ∧ Pen H' pp ll (1000 * (k : Int))) ?_ ?_ ?_
  · exact ⟨none, none, none, none, none, none, none, none, none, rfl, hP1⟩
  · rintro k σ H2 hk ⟨x2, x3, x4, x5, x6, x7, x8, x9, x10, rfl, hP2⟩
    repeat walk_at "s"
    refine ⟨pp, ll, _, rfl, hP2, by omega, fun a3 xs3 R1 H3 wf1 hx3 ha3 hP3 kp3 => ?_⟩
    repeat walk_at "s"
    refine ⟨pp, ll, a3, xs3, R1, _, rfl, hP3, wf1, hx3, ha3, by omega, fun a4 xs4 R2 H4 wf2 hx4 ha4 hP4 kp4 => ?_⟩
    repeat walk_at "s"
    refine x_cut (M := fun σ H' => ∃ (a4 : Addr) (xs4 : List Addr) (R2 : Rd), σ = [some (.ref a), some (.ref pp), some (.int (0 + (k : Int))), some (.ref a3), some (.ref a4), x5, x6, x7, x8, x9, x10] ∧ WF R2 ∧ LnsAt (Pn pp ll) H' (nmV R2.nm) false xs4 R2 ∧ At (Pn pp ll) H' a4 (.lst (xs4.map V.ref)) ∧ Pen H' pp ll (1000 * (k : Int) + 800) ∧ Kp (Pn pp ll) H3 H') ?_ ?_
    · repeat walk_at "s"
      refine ⟨pp, ll, 4, _, rfl, hP4, by omega, by omega, by omega, fun r H5 r0 r1 hP5 kp5 => ?_⟩
      repeat walk_at "s"
      refine x_ite (fun h => ?_) (fun h => ?_)
      · repeat walk_at "s"
        refine ⟨pp, ll, a4, xs4, R2, _, rfl, hP5, wf2, hx4.up kp5, ha4.up kp5, by omega, fun a5 xs5 R3 H6 wf3 hx5 ha5 hP6 kp6 => ?_⟩
        repeat walk_at "s"
        exact ⟨a5, xs5, R3, rfl, wf3, hx5, ha5, hP6.mono (by omega), (kp4.trans kp5).trans kp6⟩
      · repeat walk_at "s"
        exact ⟨a4, xs4, R2, rfl, wf2, hx4.up kp5, ha4.up kp5, hP5.mono (by omega), kp4.trans kp5⟩
    rintro σ H5 ⟨a5, xs5, R3, rfl, wf3, hx5, ha5, hP5, kp5⟩
    have ha35 := ha3.up kp5
    have hx35 := hx3.up kp5
    repeat walk_at "s"
    intro r1 dx1 H6 hr1 s6 hr16
    repeat walk_at "s"
    refine ⟨Pn pp ll, r1, dx1, a3, xs3, R1, rfl, hr16, hP5.nPn hr1, (ha35.up (Kp.same s6)).h, hx35.up (Kp.same s6), wf1, dom_up hP5.dom s6, fun H7 k7 hrd1 => ⟨rfl, ?_⟩⟩
    have s57 : Same H5 H7 := fun b o e => k7 b o (ne_of_none e hr1) (s6 _ _ e)
    have hP7 := hP5.same s57
    repeat walk_at "s"
    intro r2 dx2 H8 hr2 s8 hr28
    repeat walk_at "s"
    refine ⟨Pn pp ll, r2, dx2, a5, xs5, R3, rfl, hr28, hP7.nPn hr2, ((ha5.up (Kp.same s57)).up (Kp.same s8)).h, (hx5.up (Kp.same s57)).up (Kp.same s8), wf3, dom_up hP7.dom s8, fun H9 k9 hrd2 => ⟨rfl, ?_⟩⟩
    have s79 : Same H7 H9 := fun b o e => k9 b o (ne_of_none e hr2) (s8 _ _ e)
    have s59 := s57.trans s79
    have hP9 := hP7.same s79
    repeat walk_at "s"
    refine x_ForR (m := 2) (by omega) (fun j σ H' => ∃ (x7 x8 x9 x10 : Option V), σ = [some (.ref a), some (.ref pp), some (.int (0 + (k : Int))), some (.ref a3), some (.ref a5), some (.ref r1), some (.ref r2), x7, x8, x9, x10] ∧ Pen H' pp ll (1000 * (k : Int) + 800 + 50 * (j : Int)) ∧ Kp (Pn pp ll) H9 H') ?_ ?_ ?_
    · exact ⟨_, _, _, _, rfl, hP9.mono (by omega), Kp.refl _⟩
    · rintro j σ Ha hj ⟨y7, y8, y9, y10, rfl, hPa, kpa⟩
      have kp5a : Kp (Pn pp ll) H5 Ha := (Kp.same s59).trans kpa
      repeat walk_at "s"
      refine ⟨pp, ll, _, rfl, hPa, by omega, fun rl rs us Hb hok hru hrl hPb kpb => ?_⟩
      have kp5b := kp5a.trans kpb
      have h3b := ha35.up kp5b
      have h5b := ha5.up kp5b
      repeat walk_at "s"
      refine ⟨a3, xs3, R1, rfl, wf1, (hx35.up kp5b).sub noSub, h3b.h, fun b1 Hc sc hb1 => ?_⟩
      repeat walk_at "s"
      refine ⟨a5, xs5, R3, rfl, wf3, ((hx5.up kp5b).up (Kp.same sc)).sub noSub, (h5b.up (Kp.same sc)).h, fun b2 Hd sd hb2 => ?_⟩
      repeat walk_at "s"
      intro bl He ne
      have sbe := (sc.trans sd).trans ne.same
      repeat walk_at "s"
      refine ⟨bl, rl, b1, b2, rs, us, R1, R3, rfl, ne.at_, (hb1.up sd).up ne.same, hb2.up ne.same, wf1, wf3, (hrl.up (Kp.same sbe)).h, (hru.up (Kp.same sbe)).sub noSub, hok, fun Hf sf => ?_⟩
      have sbf := sbe.trans sf
      repeat walk_at "s"
      refine ⟨rl, rs, us, rfl, (hrl.up (Kp.same sbf)).h, (hru.up (Kp.same sbf)).sub noSub, hok, fun rw us' Hg sg hrow hfit hal => ?_⟩
      have sbg := sbf.trans sg
      have kp9g : Kp (Pn pp ll) H9 Hg := (kpa.trans kpb).trans (Kp.same sbg)
      have rd1 : RdAt No Hg CR r1 R1 := ((hrd1.up (Kp.same s79)).up kp9g).no
      have rd2 : RdAt No Hg CR r2 R3 := (hrd2.up kp9g).no
      have eq1 : answer R1 R3 (usN us') = answer R1 R3 (usN us) := answer_alike (hal _ _)
      have eq2 : answer R3 R1 (usN us') = answer R1 R3 (usN us) := (answer_sw R1 R3 (usN us')).trans eq1
      repeat walk_at "s"
      refine ⟨r1, r2, rw, R1, R3, us', rfl, rd1, rd2, wf1, wf3, hrow, hfit, fun Hh sh => ?_⟩
      rw [eq1]
      repeat walk_at "s"
      refine x_neV (ans_scal _) ?_
      repeat walk_at "s"
      refine x_no (by rw [decide_eq_true rfl]; rfl) ?_
      repeat walk_at "s"
      refine ⟨r2, r1, rw, R3, R1, us', rfl, rd2.up (Kp.same sh), rd1.up (Kp.same sh), wf3, wf1, hrow.up sh, hfit, fun Hi si => ?_⟩
      rw [eq2]
      repeat walk_at "s"
      refine x_neV (ans_scal _) ?_
      repeat walk_at "s"
      refine x_no (by rw [decide_eq_true rfl]; rfl) ?_
      repeat walk_at "s"
      have sbi := (sbg.trans sh).trans si
      refine ⟨_, _, _, _, rfl, (hPb.same sbi).mono (by omega), (kpa.trans kpb).trans (Kp.same sbi)⟩
    · rintro σ Ha ⟨y7, y8, y9, y10, rfl, hPa, kpa⟩
      exact ⟨_, _, _, _, _, _, _, _, _, rfl, hPa.mono (by omega)⟩
  · rintro σ H2 ⟨x2, x3, x4, x5, x6, x7, x8, x9, x10, rfl, hP2⟩
    repeat walk_at "s"
    exact q H2
end
end
end K21
end

section
set_option maxRecDepth 100000
set_option maxHeartbeats 8000000
namespace K21
open PySem PySem.Spec PyProof.Rows L2
noncomputable section
theorem hs_of {K : PySem.W.Frag} {d : Addr} {kvs : List (Str × Int)} (h : He.valsB K d (kvs.map fun q => (q.1, He.Dv.int q.2)) = true) : Hs K d kvs := fun q hq => He.valsB_ok h (q := (q.1, He.Dv.int q.2)) (List.mem_map.mpr ⟨q, hq, rfl⟩)
theorem tup0_ok {K : PySem.W.Frag} {a : Addr} (h : tup0 K a = true) (H : Hp) : SqT K H a [] := by
  unfold tup0 at h
  split at h
  · rename_i c dc its n sl e
    obtain ⟨h1, h2⟩ := He.ba h
    have h1 := of_decide_eq_true h1
    subst h1
    have e2 : its = #[] := by simpa using h2
    subst e2
    exact .inr ⟨_, #[], n, e, rfl, rfl, Nat.zero_le _, .nil⟩
  · exact nomatch h
theorem insB_ok {K : PySem.W.Frag} {C : Addr} (hc : Cls K C) (h : insB K C = true) : C8.InsC K C := by
  obtain ⟨h1, h⟩ := He.ba h
  obtain ⟨h2, h⟩ := He.ba h
  obtain ⟨h3, h⟩ := He.ba h
  obtain ⟨h4, h5⟩ := He.ba h
  exact ⟨hc, He.eqO_ok h1, He.eqO_ok h2, of_decide_eq_true h3, of_decide_eq_true h4, of_decide_eq_true h5⟩
theorem facts {P : Program} {w : World} {K : PySem.W.Frag} {h : Heap} {mg : Str → Option Value} {f : Addr} (X : K.In h) (G0 : h.Ns mainGlobals mg) (hfa : mg ("law" : Str) = some (.ref f)) (c : SaysK fas fns tbs exs w K) :
    ∃ fd : FuncData, (∀ (s : Shared) (v : Value), BindsTo s fd ⟨[v], []⟩ [("_law_script", v)]) ∧ ∀ base : Heap, K.In base → base.Ns mainGlobals mg → FnOk P w K mg base L2.CX0 10 f fd ["_law_script"] (spLaw K) := by
  obtain ⟨fd_fits_name, FD_fits_name⟩ := c.defs 0 (d := dF "fits_name" 19) rfl
  have FD_fits_name : L2.FunD K "fits_name" "fits_name" (defArgs (topS 19)) (defBody (topS 19)) (defScope (topS 19)) [] [] (He.ga K "fits_name") fd_fits_name := FD_fits_name
  have F_fits_name := He5.fun_of FD_fits_name
  have b_fits_name := FunD.bindsN (ps := ["text"]) FD_fits_name fun _ _ _ _ _ _ us hl => match us, hl with | [_], _ => rfl
  have mg_fits_name := He.glo_ok X G0 (c.facts 40 (f := .glo "fits_name") rfl)
  obtain ⟨fd_fits_ways, FD_fits_ways⟩ := c.defs 1 (d := dF "fits_ways" 20) rfl
  have FD_fits_ways : L2.FunD K "fits_ways" "fits_ways" (defArgs (topS 20)) (defBody (topS 20)) (defScope (topS 20)) [] [] (He.ga K "fits_ways") fd_fits_ways := FD_fits_ways
  have F_fits_ways := He5.fun_of FD_fits_ways
  have b_fits_ways := FunD.bindsN (ps := ["ways"]) FD_fits_ways fun _ _ _ _ _ _ us hl => match us, hl with | [_], _ => rfl
  have mg_fits_ways := He.glo_ok X G0 (c.facts 41 (f := .glo "fits_ways") rfl)
  obtain ⟨fd_fits_line, FD_fits_line⟩ := c.defs 2 (d := dF "fits_line" 21) rfl
  have FD_fits_line : L2.FunD K "fits_line" "fits_line" (defArgs (topS 21)) (defBody (topS 21)) (defScope (topS 21)) [] [] (He.ga K "fits_line") fd_fits_line := FD_fits_line
  have F_fits_line := He5.fun_of FD_fits_line
  have b_fits_line := FunD.bindsN (ps := ["line"]) FD_fits_line fun _ _ _ _ _ _ us hl => match us, hl with | [_], _ => rfl
  have mg_fits_line := He.glo_ok X G0 (c.facts 42 (f := .glo "fits_line") rfl)
  obtain ⟨fd_tidy_line, FD_tidy_line⟩ := c.defs 3 (d := dF "tidy_line" 22) rfl
  have FD_tidy_line : L2.FunD K "tidy_line" "tidy_line" (defArgs (topS 22)) (defBody (topS 22)) (defScope (topS 22)) [] [] (He.ga K "tidy_line") fd_tidy_line := FD_tidy_line
  have F_tidy_line := He5.fun_of FD_tidy_line
  have b_tidy_line := FunD.bindsN (ps := ["line"]) FD_tidy_line fun _ _ _ _ _ _ us hl => match us, hl with | [_], _ => rfl
  have mg_tidy_line := He.glo_ok X G0 (c.facts 43 (f := .glo "tidy_line") rfl)
  obtain ⟨fd_targets_of, FD_targets_of⟩ := c.defs 4 (d := dF "targets_of" 23) rfl
  have FD_targets_of : L2.FunD K "targets_of" "targets_of" (defArgs (topS 23)) (defBody (topS 23)) (defScope (topS 23)) [] [] (He.ga K "targets_of") fd_targets_of := FD_targets_of
  have F_targets_of := He5.fun_of FD_targets_of
  have b_targets_of := FunD.bindsN (ps := ["line"]) FD_targets_of fun _ _ _ _ _ _ us hl => match us, hl with | [_], _ => rfl
  have mg_targets_of := He.glo_ok X G0 (c.facts 44 (f := .glo "targets_of") rfl)
  obtain ⟨fd_check_lines, FD_check_lines⟩ := c.defs 5 (d := dF "check_lines" 24) rfl
  have FD_check_lines : L2.FunD K "check_lines" "check_lines" (defArgs (topS 24)) (defBody (topS 24)) (defScope (topS 24)) [] [] (He.ga K "check_lines") fd_check_lines := FD_check_lines
  have F_check_lines := He5.fun_of FD_check_lines
  have b_check_lines := FunD.bindsN (ps := ["lines"]) FD_check_lines fun _ _ _ _ _ _ us hl => match us, hl with | [_], _ => rfl
  have mg_check_lines := He.glo_ok X G0 (c.facts 45 (f := .glo "check_lines") rfl)
  obtain ⟨fd_silent_ways, FD_silent_ways⟩ := c.defs 6 (d := dF "silent_ways" 25) rfl
  have FD_silent_ways : L2.FunD K "silent_ways" "silent_ways" (defArgs (topS 25)) (defBody (topS 25)) (defScope (topS 25)) [] [] (He.ga K "silent_ways") fd_silent_ways := FD_silent_ways
  have F_silent_ways := He5.fun_of FD_silent_ways
  have b_silent_ways := FunD.bindsN (ps := ["lines"]) FD_silent_ways fun _ _ _ _ _ _ us hl => match us, hl with | [_], _ => rfl
  have mg_silent_ways := He.glo_ok X G0 (c.facts 46 (f := .glo "silent_ways") rfl)
  obtain ⟨fd_reached, FD_reached⟩ := c.defs 7 (d := dF "reached" 26) rfl
  have FD_reached : L2.FunD K "reached" "reached" (defArgs (topS 26)) (defBody (topS 26)) (defScope (topS 26)) [] [] (He.ga K "reached") fd_reached := FD_reached
  have F_reached := He5.fun_of FD_reached
  have b_reached := FunD.bindsN (ps := ["ways", "number"]) FD_reached fun _ _ _ _ _ _ us hl => match us, hl with | [_, _], _ => rfl
  have mg_reached := He.glo_ok X G0 (c.facts 47 (f := .glo "reached") rfl)
  obtain ⟨fd_check_ways, FD_check_ways⟩ := c.defs 8 (d := dF "check_ways" 27) rfl
  have FD_check_ways : L2.FunD K "check_ways" "check_ways" (defArgs (topS 27)) (defBody (topS 27)) (defScope (topS 27)) [] [] (He.ga K "check_ways") fd_check_ways := FD_check_ways
  have F_check_ways := He5.fun_of FD_check_ways
  have b_check_ways := FunD.bindsN (ps := ["lines"]) FD_check_ways fun _ _ _ _ _ _ us hl => match us, hl with | [_], _ => rfl
  have mg_check_ways := He.glo_ok X G0 (c.facts 48 (f := .glo "check_ways") rfl)
  obtain ⟨fd_Reader___init__, FD_Reader___init__⟩ := c.defs 9 (d := dM "Reader" "__init__" "Reader.__init__" 28 0) rfl
  have FD_Reader___init__ : L2.FunD K "__init__" "Reader.__init__" (defArgs (inC 28 0)) (defBody (inC 28 0)) (defScope (inC 28 0)) [] [] (He.ma K (He.ga K "Reader") "__init__") fd_Reader___init__ := FD_Reader___init__
  have F_Reader___init__ := He5.fun_of FD_Reader___init__
  have b_Reader___init__ := FunD.bindsN (ps := ["self", "lines"]) FD_Reader___init__ fun _ _ _ _ _ _ us hl => match us, hl with | [_, _], _ => rfl
  obtain ⟨fd_Reader_names, FD_Reader_names⟩ := c.defs 10 (d := dM "Reader" "names" "Reader.names" 28 2) rfl
  have FD_Reader_names : L2.FunD K "names" "Reader.names" (defArgs (inC 28 2)) (defBody (inC 28 2)) (defScope (inC 28 2)) [] [] (He.ma K (He.ga K "Reader") "names") fd_Reader_names := FD_Reader_names
  have F_Reader_names := He5.fun_of FD_Reader_names
  have b_Reader_names := FunD.bindsN (ps := ["self"]) FD_Reader_names fun _ _ _ _ _ _ us hl => match us, hl with | [_], _ => rfl
  obtain ⟨fd_Machine___init__, FD_Machine___init__⟩ := c.defs 11 (d := dM "Machine" "__init__" "Machine.__init__" 30 0) rfl
  have FD_Machine___init__ : L2.FunD K "__init__" "Machine.__init__" (defArgs (inC 30 0)) (defBody (inC 30 0)) (defScope (inC 30 0)) [] [] (He.ma K (He.ga K "Machine") "__init__") fd_Machine___init__ := FD_Machine___init__
  have F_Machine___init__ := He5.fun_of FD_Machine___init__
  have b_Machine___init__ := FunD.bindsN (ps := ["self", "labels", "lines"]) FD_Machine___init__ fun _ _ _ _ _ _ us hl => match us, hl with | [_, _, _], _ => rfl
  obtain ⟨fd_numbered, FD_numbered⟩ := c.defs 12 (d := dF "numbered" 31) rfl
  have FD_numbered : L2.FunD K "numbered" "numbered" (defArgs (topS 31)) (defBody (topS 31)) (defScope (topS 31)) [] [] (He.ga K "numbered") fd_numbered := FD_numbered
  have F_numbered := He5.fun_of FD_numbered
  have b_numbered := FunD.bindsN (ps := ["line", "labels", "spots"]) FD_numbered fun _ _ _ _ _ _ us hl => match us, hl with | [_, _, _], _ => rfl
  have mg_numbered := He.glo_ok X G0 (c.facts 49 (f := .glo "numbered") rfl)
  obtain ⟨fd_compiled, FD_compiled⟩ := c.defs 13 (d := dCompiled) rfl
  have FD_compiled : L2.FunD K "compiled" "compiled" (defArgs (topS 32)) (defBody (topS 32)) (defScope (topS 32)) [.ref (He.dflAt ("compiled", none) 0 K)] [] (He.ga K "compiled") fd_compiled := FD_compiled
  have mg_compiled := He.glo_ok X G0 (c.facts 50 (f := .glo "compiled") rfl)
  obtain ⟨fd_settle, FD_settle⟩ := c.defs 14 (d := dF "settle" 33) rfl
  have FD_settle : L2.FunD K "settle" "settle" (defArgs (topS 33)) (defBody (topS 33)) (defScope (topS 33)) [] [] (He.ga K "settle") fd_settle := FD_settle
  have F_settle := He5.fun_of FD_settle
  have b_settle := FunD.bindsN (ps := ["machine", "line", "kept"]) FD_settle fun _ _ _ _ _ _ us hl => match us, hl with | [_, _, _], _ => rfl
  have mg_settle := He.glo_ok X G0 (c.facts 51 (f := .glo "settle") rfl)
  obtain ⟨fd_begin, FD_begin⟩ := c.defs 15 (d := dF "begin" 34) rfl
  have FD_begin : L2.FunD K "begin" "begin" (defArgs (topS 34)) (defBody (topS 34)) (defScope (topS 34)) [] [] (He.ga K "begin") fd_begin := FD_begin
  have F_begin := He5.fun_of FD_begin
  have b_begin := FunD.bindsN (ps := ["machine"]) FD_begin fun _ _ _ _ _ _ us hl => match us, hl with | [_], _ => rfl
  have mg_begin := He.glo_ok X G0 (c.facts 52 (f := .glo "begin") rfl)
  obtain ⟨fd_exit_of, FD_exit_of⟩ := c.defs 16 (d := dF "exit_of" 35) rfl
  have FD_exit_of : L2.FunD K "exit_of" "exit_of" (defArgs (topS 35)) (defBody (topS 35)) (defScope (topS 35)) [] [] (He.ga K "exit_of") fd_exit_of := FD_exit_of
  have F_exit_of := He5.fun_of FD_exit_of
  have b_exit_of := FunD.bindsN (ps := ["ways", "cell"]) FD_exit_of fun _ _ _ _ _ _ us hl => match us, hl with | [_, _], _ => rfl
  have mg_exit_of := He.glo_ok X G0 (c.facts 53 (f := .glo "exit_of") rfl)
  obtain ⟨fd_kept_by, FD_kept_by⟩ := c.defs 17 (d := dF "kept_by" 36) rfl
  have FD_kept_by : L2.FunD K "kept_by" "kept_by" (defArgs (topS 36)) (defBody (topS 36)) (defScope (topS 36)) [] [] (He.ga K "kept_by") fd_kept_by := FD_kept_by
  have F_kept_by := He5.fun_of FD_kept_by
  have b_kept_by := FunD.bindsN (ps := ["parts", "kept", "cell"]) FD_kept_by fun _ _ _ _ _ _ us hl => match us, hl with | [_, _, _], _ => rfl
  have mg_kept_by := He.glo_ok X G0 (c.facts 54 (f := .glo "kept_by") rfl)
  obtain ⟨fd_step, FD_step⟩ := c.defs 18 (d := dF "step" 37) rfl
  have FD_step : L2.FunD K "step" "step" (defArgs (topS 37)) (defBody (topS 37)) (defScope (topS 37)) [] [] (He.ga K "step") fd_step := FD_step
  have F_step := He5.fun_of FD_step
  have b_step := FunD.bindsN (ps := ["machine", "state", "cell"]) FD_step fun _ _ _ _ _ _ us hl => match us, hl with | [_, _, _], _ => rfl
  have mg_step := He.glo_ok X G0 (c.facts 55 (f := .glo "step") rfl)
  obtain ⟨fd_hop, FD_hop⟩ := c.defs 19 (d := dF "hop" 38) rfl
  have FD_hop : L2.FunD K "hop" "hop" (defArgs (topS 38)) (defBody (topS 38)) (defScope (topS 38)) [] [] (He.ga K "hop") fd_hop := FD_hop
  have F_hop := He5.fun_of FD_hop
  have b_hop := FunD.bindsN (ps := ["machine", "state", "count", "cell"]) FD_hop fun _ _ _ _ _ _ us hl => match us, hl with | [_, _, _, _], _ => rfl
  have mg_hop := He.glo_ok X G0 (c.facts 56 (f := .glo "hop") rfl)
  obtain ⟨fd_advance, FD_advance⟩ := c.defs 20 (d := dF "advance" 39) rfl
  have FD_advance : L2.FunD K "advance" "advance" (defArgs (topS 39)) (defBody (topS 39)) (defScope (topS 39)) [] [] (He.ga K "advance") fd_advance := FD_advance
  have F_advance := He5.fun_of FD_advance
  have b_advance := FunD.bindsN (ps := ["machine", "state", "count", "cell"]) FD_advance fun _ _ _ _ _ _ us hl => match us, hl with | [_, _, _, _], _ => rfl
  have mg_advance := He.glo_ok X G0 (c.facts 57 (f := .glo "advance") rfl)
  obtain ⟨fd_happens, FD_happens⟩ := c.defs 21 (d := dF "happens" 40) rfl
  have FD_happens : L2.FunD K "happens" "happens" (defArgs (topS 40)) (defBody (topS 40)) (defScope (topS 40)) [] [] (He.ga K "happens") fd_happens := FD_happens
  have F_happens := He5.fun_of FD_happens
  have b_happens := FunD.bindsN (ps := ["machine", "state", "count", "cell"]) FD_happens fun _ _ _ _ _ _ us hl => match us, hl with | [_, _, _, _], _ => rfl
  have mg_happens := He.glo_ok X G0 (c.facts 58 (f := .glo "happens") rfl)
  obtain ⟨fd_check_cells, FD_check_cells⟩ := c.defs 22 (d := dF "check_cells" 44) rfl
  have FD_check_cells : L2.FunD K "check_cells" "check_cells" (defArgs (topS 44)) (defBody (topS 44)) (defScope (topS 44)) [] [] (He.ga K "check_cells") fd_check_cells := FD_check_cells
  have F_check_cells := He5.fun_of FD_check_cells
  have b_check_cells := FunD.bindsN (ps := ["cells"]) FD_check_cells fun _ _ _ _ _ _ us hl => match us, hl with | [_], _ => rfl
  have mg_check_cells := He.glo_ok X G0 (c.facts 59 (f := .glo "check_cells") rfl)
  obtain ⟨fd_merged, FD_merged⟩ := c.defs 23 (d := dF "merged" 45) rfl
  have FD_merged : L2.FunD K "merged" "merged" (defArgs (topS 45)) (defBody (topS 45)) (defScope (topS 45)) [] [] (He.ga K "merged") fd_merged := FD_merged
  have F_merged := He5.fun_of FD_merged
  have b_merged := FunD.bindsN (ps := ["runs"]) FD_merged fun _ _ _ _ _ _ us hl => match us, hl with | [_], _ => rfl
  have mg_merged := He.glo_ok X G0 (c.facts 60 (f := .glo "merged") rfl)
  obtain ⟨fd_Row___init__, FD_Row___init__⟩ := c.defs 24 (d := dRowInit) rfl
  have FD_Row___init__ : L2.FunD K "__init__" "Row.__init__" (defArgs (inC 46 0)) (defBody (inC 46 0)) (defScope (inC 46 0)) [.ref (He.dflAt ("Row", some "__init__") 0 K), .ref (He.dflAt ("Row", some "__init__") 1 K)] [] (He.ma K (He.ga K "Row") "__init__") fd_Row___init__ := FD_Row___init__
  obtain ⟨fd_Row_of_runs, FD_Row_of_runs⟩ := c.defs 25 (d := dOfRuns) rfl
  have FD_Row_of_runs : L2.FunD K "of_runs" "Row.of_runs" (defArgs (inC 46 1)) (defBody (inC 46 1)) (defScope (inC 46 1)) [] [] (He5.wf K (He.ga K "Row") "classmethod" "of_runs") fd_Row_of_runs := FD_Row_of_runs
  have F_Row_of_runs := He5.fun_of FD_Row_of_runs
  have b_Row_of_runs := FunD.bindsN (ps := ["cls", "runs"]) FD_Row_of_runs fun _ _ _ _ _ _ us hl => match us, hl with | [_, _], _ => rfl
  obtain ⟨fd_to_row, FD_to_row⟩ := c.defs 26 (d := dF "to_row" 47) rfl
  have FD_to_row : L2.FunD K "to_row" "to_row" (defArgs (topS 47)) (defBody (topS 47)) (defScope (topS 47)) [] [] (He.ga K "to_row") fd_to_row := FD_to_row
  have F_to_row := He5.fun_of FD_to_row
  have b_to_row := FunD.bindsN (ps := ["row"]) FD_to_row fun _ _ _ _ _ _ us hl => match us, hl with | [_], _ => rfl
  have mg_to_row := He.glo_ok X G0 (c.facts 61 (f := .glo "to_row") rfl)
  obtain ⟨fd_Pair___init__, FD_Pair___init__⟩ := c.defs 27 (d := dM "Pair" "__init__" "Pair.__init__" 49 0) rfl
  have FD_Pair___init__ : L2.FunD K "__init__" "Pair.__init__" (defArgs (inC 49 0)) (defBody (inC 49 0)) (defScope (inC 49 0)) [] [] (He.ma K (He.ga K "Pair") "__init__") fd_Pair___init__ := FD_Pair___init__
  have F_Pair___init__ := He5.fun_of FD_Pair___init__
  have b_Pair___init__ := FunD.bindsN (ps := ["self", "one", "other"]) FD_Pair___init__ fun _ _ _ _ _ _ us hl => match us, hl with | [_, _, _], _ => rfl
  obtain ⟨fd_Pair_first, FD_Pair_first⟩ := c.defs 28 (d := dM "Pair" "first" "Pair.first" 49 1) rfl
  have FD_Pair_first : L2.FunD K "first" "Pair.first" (defArgs (inC 49 1)) (defBody (inC 49 1)) (defScope (inC 49 1)) [] [] (He.ma K (He.ga K "Pair") "first") fd_Pair_first := FD_Pair_first
  have F_Pair_first := He5.fun_of FD_Pair_first
  have b_Pair_first := FunD.bindsN (ps := ["self", "count", "cell"]) FD_Pair_first fun _ _ _ _ _ _ us hl => match us, hl with | [_, _, _], _ => rfl
  obtain ⟨fd_Pair_moved, FD_Pair_moved⟩ := c.defs 29 (d := dM "Pair" "moved" "Pair.moved" 49 2) rfl
  have FD_Pair_moved : L2.FunD K "moved" "Pair.moved" (defArgs (inC 49 2)) (defBody (inC 49 2)) (defScope (inC 49 2)) [] [] (He.ma K (He.ga K "Pair") "moved") fd_Pair_moved := FD_Pair_moved
  have F_Pair_moved := He5.fun_of FD_Pair_moved
  have b_Pair_moved := FunD.bindsN (ps := ["self", "spot", "found", "at", "cell"]) FD_Pair_moved fun _ _ _ _ _ _ us hl => match us, hl with | [_, _, _, _, _], _ => rfl
  obtain ⟨fd_Pair_unlike, FD_Pair_unlike⟩ := c.defs 30 (d := dM "Pair" "unlike" "Pair.unlike" 49 3) rfl
  have FD_Pair_unlike : L2.FunD K "unlike" "Pair.unlike" (defArgs (inC 49 3)) (defBody (inC 49 3)) (defScope (inC 49 3)) [] [] (He.ma K (He.ga K "Pair") "unlike") fd_Pair_unlike := FD_Pair_unlike
  have F_Pair_unlike := He5.fun_of FD_Pair_unlike
  have b_Pair_unlike := FunD.bindsN (ps := ["self", "count", "cell"]) FD_Pair_unlike fun _ _ _ _ _ _ us hl => match us, hl with | [_, _, _], _ => rfl
  obtain ⟨fd_first_unlike, FD_first_unlike⟩ := c.defs 31 (d := dF "first_unlike" 50) rfl
  have FD_first_unlike : L2.FunD K "first_unlike" "first_unlike" (defArgs (topS 50)) (defBody (topS 50)) (defScope (topS 50)) [] [] (He.ga K "first_unlike") fd_first_unlike := FD_first_unlike
  have F_first_unlike := He5.fun_of FD_first_unlike
  have b_first_unlike := FunD.bindsN (ps := ["one", "other", "row"]) FD_first_unlike fun _ _ _ _ _ _ us hl => match us, hl with | [_, _, _], _ => rfl
  have mg_first_unlike := He.glo_ok X G0 (c.facts 62 (f := .glo "first_unlike") rfl)
  obtain ⟨fd_parting_place, FD_parting_place⟩ := c.defs 32 (d := dF "parting_place" 51) rfl
  have FD_parting_place : L2.FunD K "parting_place" "parting_place" (defArgs (topS 51)) (defBody (topS 51)) (defScope (topS 51)) [] [] (He.ga K "parting_place") fd_parting_place := FD_parting_place
  have F_parting_place := He5.fun_of FD_parting_place
  have b_parting_place := FunD.bindsN (ps := ["one", "other", "row"]) FD_parting_place fun _ _ _ _ _ _ us hl => match us, hl with | [_, _, _], _ => rfl
  have mg_parting_place := He.glo_ok X G0 (c.facts 63 (f := .glo "parting_place") rfl)
  obtain ⟨fd__law_draw, FD__law_draw⟩ := c.defs 33 (d := dF "_law_draw" 53) rfl
  have FD__law_draw : L2.FunD K "_law_draw" "_law_draw" (defArgs (topS 53)) (defBody (topS 53)) (defScope (topS 53)) [] [] (He.ga K "_law_draw") fd__law_draw := FD__law_draw
  have F__law_draw := He5.fun_of FD__law_draw
  have b__law_draw := FunD.bindsN (ps := ["_law_pen", "_law_many"]) FD__law_draw fun _ _ _ _ _ _ us hl => match us, hl with | [_, _], _ => rfl
  have mg__law_draw := He.glo_ok X G0 (c.facts 64 (f := .glo "_law_draw") rfl)
  obtain ⟨fd__law_pick, FD__law_pick⟩ := c.defs 34 (d := dF "_law_pick" 54) rfl
  have FD__law_pick : L2.FunD K "_law_pick" "_law_pick" (defArgs (topS 54)) (defBody (topS 54)) (defScope (topS 54)) [] [] (He.ga K "_law_pick") fd__law_pick := FD__law_pick
  have F__law_pick := He5.fun_of FD__law_pick
  have b__law_pick := FunD.bindsN (ps := ["_law_pen", "_law_row"]) FD__law_pick fun _ _ _ _ _ _ us hl => match us, hl with | [_, _], _ => rfl
  have mg__law_pick := He.glo_ok X G0 (c.facts 65 (f := .glo "_law_pick") rfl)
  obtain ⟨fd__law_word, FD__law_word⟩ := c.defs 35 (d := dF "_law_word" 55) rfl
  have FD__law_word : L2.FunD K "_law_word" "_law_word" (defArgs (topS 55)) (defBody (topS 55)) (defScope (topS 55)) [] [] (He.ga K "_law_word") fd__law_word := FD__law_word
  have F__law_word := He5.fun_of FD__law_word
  have b__law_word := FunD.bindsN (ps := ["_law_pen", "_law_most"]) FD__law_word fun _ _ _ _ _ _ us hl => match us, hl with | [_, _], _ => rfl
  have mg__law_word := He.glo_ok X G0 (c.facts 66 (f := .glo "_law_word") rfl)
  obtain ⟨fd__law_names, FD__law_names⟩ := c.defs 36 (d := dF "_law_names" 56) rfl
  have FD__law_names : L2.FunD K "_law_names" "_law_names" (defArgs (topS 56)) (defBody (topS 56)) (defScope (topS 56)) [] [] (He.ga K "_law_names") fd__law_names := FD__law_names
  have F__law_names := He5.fun_of FD__law_names
  have b__law_names := FunD.bindsN (ps := ["_law_pen", "_law_many"]) FD__law_names fun _ _ _ _ _ _ us hl => match us, hl with | [_, _], _ => rfl
  have mg__law_names := He.glo_ok X G0 (c.facts 67 (f := .glo "_law_names") rfl)
  obtain ⟨fd__law_words, FD__law_words⟩ := c.defs 37 (d := dF "_law_words" 57) rfl
  have FD__law_words : L2.FunD K "_law_words" "_law_words" (defArgs (topS 57)) (defBody (topS 57)) (defScope (topS 57)) [] [] (He.ga K "_law_words") fd__law_words := FD__law_words
  have F__law_words := He5.fun_of FD__law_words
  have b__law_words := FunD.bindsN (ps := ["_law_pen", "_law_many"]) FD__law_words fun _ _ _ _ _ _ us hl => match us, hl with | [_, _], _ => rfl
  have mg__law_words := He.glo_ok X G0 (c.facts 68 (f := .glo "_law_words") rfl)
  obtain ⟨fd__law_goal, FD__law_goal⟩ := c.defs 38 (d := dF "_law_goal" 58) rfl
  have FD__law_goal : L2.FunD K "_law_goal" "_law_goal" (defArgs (topS 58)) (defBody (topS 58)) (defScope (topS 58)) [] [] (He.ga K "_law_goal") fd__law_goal := FD__law_goal
  have F__law_goal := He5.fun_of FD__law_goal
  have b__law_goal := FunD.bindsN (ps := ["_law_pen", "_law_words_here", "_law_at"]) FD__law_goal fun _ _ _ _ _ _ us hl => match us, hl with | [_, _, _], _ => rfl
  have mg__law_goal := He.glo_ok X G0 (c.facts 69 (f := .glo "_law_goal") rfl)
  obtain ⟨fd__law_ways, FD__law_ways⟩ := c.defs 39 (d := dF "_law_ways" 59) rfl
  have FD__law_ways : L2.FunD K "_law_ways" "_law_ways" (defArgs (topS 59)) (defBody (topS 59)) (defScope (topS 59)) [] [] (He.ga K "_law_ways") fd__law_ways := FD__law_ways
  have F__law_ways := He5.fun_of FD__law_ways
  have b__law_ways := FunD.bindsN (ps := ["_law_pen", "_law_names_here", "_law_words_here", "_law_at"]) FD__law_ways fun _ _ _ _ _ _ us hl => match us, hl with | [_, _, _, _], _ => rfl
  have mg__law_ways := He.glo_ok X G0 (c.facts 70 (f := .glo "_law_ways") rfl)
  obtain ⟨fd__law_line, FD__law_line⟩ := c.defs 40 (d := dF "_law_line" 60) rfl
  have FD__law_line : L2.FunD K "_law_line" "_law_line" (defArgs (topS 60)) (defBody (topS 60)) (defScope (topS 60)) [] [] (He.ga K "_law_line") fd__law_line := FD__law_line
  have F__law_line := He5.fun_of FD__law_line
  have b__law_line := FunD.bindsN (ps := ["_law_pen", "_law_names_here", "_law_words_here", "_law_at"]) FD__law_line fun _ _ _ _ _ _ us hl => match us, hl with | [_, _, _, _], _ => rfl
  have mg__law_line := He.glo_ok X G0 (c.facts 71 (f := .glo "_law_line") rfl)
  obtain ⟨fd__law_lines, FD__law_lines⟩ := c.defs 41 (d := dF "_law_lines" 61) rfl
  have FD__law_lines : L2.FunD K "_law_lines" "_law_lines" (defArgs (topS 61)) (defBody (topS 61)) (defScope (topS 61)) [] [] (He.ga K "_law_lines") fd__law_lines := FD__law_lines
  have F__law_lines := He5.fun_of FD__law_lines
  have b__law_lines := FunD.bindsN (ps := ["_law_pen", "_law_most"]) FD__law_lines fun _ _ _ _ _ _ us hl => match us, hl with | [_, _], _ => rfl
  have mg__law_lines := He.glo_ok X G0 (c.facts 72 (f := .glo "_law_lines") rfl)
  obtain ⟨fd__law_near, FD__law_near⟩ := c.defs 42 (d := dF "_law_near" 62) rfl
  have FD__law_near : L2.FunD K "_law_near" "_law_near" (defArgs (topS 62)) (defBody (topS 62)) (defScope (topS 62)) [] [] (He.ga K "_law_near") fd__law_near := FD__law_near
  have F__law_near := He5.fun_of FD__law_near
  have b__law_near := FunD.bindsN (ps := ["_law_pen", "_law_lines_here"]) FD__law_near fun _ _ _ _ _ _ us hl => match us, hl with | [_, _], _ => rfl
  have mg__law_near := He.glo_ok X G0 (c.facts 73 (f := .glo "_law_near") rfl)
  obtain ⟨fd__law_settle, FD__law_settle⟩ := c.defs 43 (d := dF "_law_settle" 63) rfl
  have FD__law_settle : L2.FunD K "_law_settle" "_law_settle" (defArgs (topS 63)) (defBody (topS 63)) (defScope (topS 63)) [] [] (He.ga K "_law_settle") fd__law_settle := FD__law_settle
  have F__law_settle := He5.fun_of FD__law_settle
  have b__law_settle := FunD.bindsN (ps := ["_law_book_here", "_law_name", "_law_kept"]) FD__law_settle fun _ _ _ _ _ _ us hl => match us, hl with | [_, _, _], _ => rfl
  have mg__law_settle := He.glo_ok X G0 (c.facts 74 (f := .glo "_law_settle") rfl)
  obtain ⟨fd__law_step, FD__law_step⟩ := c.defs 44 (d := dF "_law_step" 64) rfl
  have FD__law_step : L2.FunD K "_law_step" "_law_step" (defArgs (topS 64)) (defBody (topS 64)) (defScope (topS 64)) [] [] (He.ga K "_law_step") fd__law_step := FD__law_step
  have F__law_step := He5.fun_of FD__law_step
  have b__law_step := FunD.bindsN (ps := ["_law_book_here", "_law_state", "_law_cell"]) FD__law_step fun _ _ _ _ _ _ us hl => match us, hl with | [_, _, _], _ => rfl
  have mg__law_step := He.glo_ok X G0 (c.facts 75 (f := .glo "_law_step") rfl)
  obtain ⟨fd__law_far, FD__law_far⟩ := c.defs 45 (d := dF "_law_far" 65) rfl
  have FD__law_far : L2.FunD K "_law_far" "_law_far" (defArgs (topS 65)) (defBody (topS 65)) (defScope (topS 65)) [] [] (He.ga K "_law_far") fd__law_far := FD__law_far
  have F__law_far := He5.fun_of FD__law_far
  have b__law_far := FunD.bindsN (ps := ["_law_book_here", "_law_state", "_law_count", "_law_cell"]) FD__law_far fun _ _ _ _ _ _ us hl => match us, hl with | [_, _, _, _], _ => rfl
  have mg__law_far := He.glo_ok X G0 (c.facts 76 (f := .glo "_law_far") rfl)
  obtain ⟨fd__law_ten, FD__law_ten⟩ := c.defs 46 (d := dF "_law_ten" 66) rfl
  have FD__law_ten : L2.FunD K "_law_ten" "_law_ten" (defArgs (topS 66)) (defBody (topS 66)) (defScope (topS 66)) [] [] (He.ga K "_law_ten") fd__law_ten := FD__law_ten
  have F__law_ten := He5.fun_of FD__law_ten
  have b__law_ten := FunD.bindsN (ps := ["_law_pen"]) FD__law_ten fun _ _ _ _ _ _ us hl => match us, hl with | [_], _ => rfl
  have mg__law_ten := He.glo_ok X G0 (c.facts 77 (f := .glo "_law_ten") rfl)
  obtain ⟨fd__law_runs, FD__law_runs⟩ := c.defs 47 (d := dF "_law_runs" 67) rfl
  have FD__law_runs : L2.FunD K "_law_runs" "_law_runs" (defArgs (topS 67)) (defBody (topS 67)) (defScope (topS 67)) [] [] (He.ga K "_law_runs") fd__law_runs := FD__law_runs
  have F__law_runs := He5.fun_of FD__law_runs
  have b__law_runs := FunD.bindsN (ps := ["_law_pen", "_law_most"]) FD__law_runs fun _ _ _ _ _ _ us hl => match us, hl with | [_, _], _ => rfl
  have mg__law_runs := He.glo_ok X G0 (c.facts 78 (f := .glo "_law_runs") rfl)
  obtain ⟨fd__law_ahead, FD__law_ahead⟩ := c.defs 48 (d := dF "_law_ahead" 68) rfl
  have FD__law_ahead : L2.FunD K "_law_ahead" "_law_ahead" (defArgs (topS 68)) (defBody (topS 68)) (defScope (topS 68)) [] [] (He.ga K "_law_ahead") fd__law_ahead := FD__law_ahead
  have F__law_ahead := He5.fun_of FD__law_ahead
  have b__law_ahead := FunD.bindsN (ps := ["_law_book_here", "_law_state", "_law_count", "_law_cell"]) FD__law_ahead fun _ _ _ _ _ _ us hl => match us, hl with | [_, _, _, _], _ => rfl
  have mg__law_ahead := He.glo_ok X G0 (c.facts 79 (f := .glo "_law_ahead") rfl)
  obtain ⟨fd__law_book, FD__law_book⟩ := c.defs 49 (d := dF "_law_book" 69) rfl
  have FD__law_book : L2.FunD K "_law_book" "_law_book" (defArgs (topS 69)) (defBody (topS 69)) (defScope (topS 69)) [] [] (He.ga K "_law_book") fd__law_book := FD__law_book
  have F__law_book := He5.fun_of FD__law_book
  have b__law_book := FunD.bindsN (ps := ["_law_lines_here"]) FD__law_book fun _ _ _ _ _ _ us hl => match us, hl with | [_], _ => rfl
  have mg__law_book := He.glo_ok X G0 (c.facts 80 (f := .glo "_law_book") rfl)
  obtain ⟨fd__law_events, FD__law_events⟩ := c.defs 50 (d := dF "_law_events" 70) rfl
  have FD__law_events : L2.FunD K "_law_events" "_law_events" (defArgs (topS 70)) (defBody (topS 70)) (defScope (topS 70)) [] [] (He.ga K "_law_events") fd__law_events := FD__law_events
  have F__law_events := He5.fun_of FD__law_events
  have b__law_events := FunD.bindsN (ps := ["_law_books", "_law_states", "_law_rest", "_law_cell"]) FD__law_events fun _ _ _ _ _ _ us hl => match us, hl with | [_, _, _, _], _ => rfl
  have mg__law_events := He.glo_ok X G0 (c.facts 81 (f := .glo "_law_events") rfl)
  obtain ⟨fd__law_part, FD__law_part⟩ := c.defs 51 (d := dF "_law_part" 71) rfl
  have FD__law_part : L2.FunD K "_law_part" "_law_part" (defArgs (topS 71)) (defBody (topS 71)) (defScope (topS 71)) [] [] (He.ga K "_law_part") fd__law_part := FD__law_part
  have F__law_part := He5.fun_of FD__law_part
  have b__law_part := FunD.bindsN (ps := ["_law_books", "_law_runs_here"]) FD__law_part fun _ _ _ _ _ _ us hl => match us, hl with | [_, _], _ => rfl
  have mg__law_part := He.glo_ok X G0 (c.facts 82 (f := .glo "_law_part") rfl)
  obtain ⟨fd_law, FD_law⟩ := c.defs 52 (d := dF "law" 72) rfl
  have FD_law : L2.FunD K "law" "law" (defArgs (topS 72)) (defBody (topS 72)) (defScope (topS 72)) [] [] (He.ga K "law") fd_law := FD_law
  have F_law := He5.fun_of FD_law
  have b_law := FunD.bindsN (ps := ["_law_script"]) FD_law fun _ _ _ _ _ _ us hl => match us, hl with | [_], _ => rfl
  have mg_law := He.glo_ok X G0 (c.facts 83 (f := .glo "law") rfl)
  have bi := fun (x : Str) (i : Int) (h : ∃ t, mg x = some (.int i t)) => (show ∃ u, mg x = some u ∧ RelV (.int i) u from let ⟨t, e⟩ := h; ⟨_, e, ⟨t, rfl⟩⟩)
  have G : Gm K mg := ⟨He.free_ok X G0 (c.facts 0 (f := .free "len") rfl), He.free_ok X G0 (c.facts 1 (f := .free "range") rfl), He.free_ok X G0 (c.facts 2 (f := .free "all") rfl), He.free_ok X G0 (c.facts 3 (f := .free "list") rfl), He.free_ok X G0 (c.facts 4 (f := .free "tuple") rfl), He.free_ok X G0 (c.facts 5 (f := .free "max") rfl), He.free_ok X G0 (c.facts 6 (f := .free "min") rfl), He.free_ok X G0 (c.facts 7 (f := .free "int") rfl), He.free_ok X G0 (c.facts 8 (f := .free "enumerate") rfl), He.free_ok X G0 (c.facts 9 (f := .free "isinstance") rfl), bi _ _ (He.int_ok X G0 (c.facts 10 (f := .int "MOST_LINES" 8) rfl)), bi _ _ (He.int_ok X G0 (c.facts 11 (f := .int "MOST_VALUE" 5) rfl)), bi _ _ (He.int_ok X G0 (c.facts 12 (f := .int "MOST_RUNS" 1000) rfl)), (let ⟨t, e⟩ := He.str_ok X G0 (c.facts 13 (f := .str "LETTERS" "abcdefghijklmnopqrstuvwxyz") rfl); ⟨_, e, ⟨t, rfl⟩⟩)⟩
  have g_READING : ∃ u, mg "READING" = some u ∧ RelV (.ref (He.ga K "READING")) u := ⟨_, He.glo_ok X G0 (c.facts 14 (f := .glo "READING") rfl), rfl⟩
  have g_SIZES : ∃ u, mg "SIZES" = some u ∧ RelV (.ref (He.ga K "SIZES")) u := ⟨_, He.glo_ok X G0 (c.facts 15 (f := .glo "SIZES") rfl), rfl⟩
  have g_LEAST : ∃ u, mg "LEAST" = some u ∧ RelV (.ref (He.ga K "LEAST")) u := ⟨_, He.glo_ok X G0 (c.facts 16 (f := .glo "LEAST") rfl), rfl⟩
  have g_GREATEST : ∃ u, mg "GREATEST" = some u ∧ RelV (.ref (He.ga K "GREATEST")) u := ⟨_, He.glo_ok X G0 (c.facts 17 (f := .glo "GREATEST") rfl), rfl⟩
  have g_Row : ∃ u, mg "Row" = some u ∧ RelV (.ref (He.ga K "Row")) u := ⟨_, He.glo_ok X G0 (c.facts 28 (f := .glo "Row") rfl), rfl⟩
  obtain ⟨x1, ex⟩ := He.ba c.exB
  obtain ⟨x2, ex⟩ := He.ba ex
  obtain ⟨x3, ex⟩ := He.ba ex
  obtain ⟨x4, ex⟩ := He.ba ex
  obtain ⟨x5, ex⟩ := He.ba ex
  obtain ⟨x6, ex⟩ := He.ba ex
  obtain ⟨x7, ex⟩ := He.ba ex
  obtain ⟨x8, ex⟩ := He.ba ex
  obtain ⟨x9, ex⟩ := He.ba ex
  obtain ⟨xa, ex⟩ := He.ba ex
  obtain ⟨xb, xc⟩ := He.ba ex
  have GR : Gr K mg (He.ga K "READING") := ⟨g_READING, fun H => He.tupB_ok x1 H⟩
  have hS : Hs K (He.ga K "SIZES") szL := hs_of x2
  have hL : Hs K (He.ga K "LEAST") leL := hs_of x3
  have hG : Hs K (He.ga K "GREATEST") grL := hs_of x4
  have hN : ∀ z ∈ (["case", "take", "cut", "refuse"] : List Str), PySem.W.nsIn K (He.ga K "LEAST") z = some none := fun z hz => by
    simp only [List.mem_cons, List.not_mem_nil, or_false] at hz
    rcases hz with rfl | rfl | rfl | rfl
    · exact He.eqO_ok (List.all_eq_true.mp x5 "case" (by decide))
    · exact He.eqO_ok (List.all_eq_true.mp x5 "take" (by decide))
    · exact He.eqO_ok (List.all_eq_true.mp x5 "cut" (by decide))
    · exact He.eqO_ok (List.all_eq_true.mp x5 "refuse" (by decide))
  obtain ⟨eS, iS, kd_SIZES⟩ := c.tab 0 (t := (fun K => He.ga K "SIZES", kSizes.map (·.1))) rfl
  obtain ⟨eL, iL, kd_LEAST⟩ := c.tab 1 (t := (fun K => He.ga K "LEAST", kLeast.map (·.1))) rfl
  obtain ⟨eG, iG, kd_GREATEST⟩ := c.tab 2 (t := (fun K => He.ga K "GREATEST", kGreat.map (·.1))) rfl
  have het : ∀ H, SqT K H (He.dflAt ("compiled", none) 0 K) [] := tup0_ok x6
  have ins_Row : C8.InsC K (He.ga K "Row") := insB_ok (He.cls_ok (c.facts 29 (f := .cls "Row") rfl)) x7
  have CMok : McOk K (He.ga K "Machine") := ⟨He.cls_ok (c.facts 24 (f := .cls "Machine") rfl), He.noat_ok (c.facts 25 (f := .noat "Machine" "labels") rfl), He.noat_ok (c.facts 26 (f := .noat "Machine" "lines") rfl)⟩
  have CRok : RcOk K (He.ga K "Reader") := ⟨He.cls_ok (c.facts 19 (f := .cls "Reader") rfl), He.noat_ok (c.facts 20 (f := .noat "Reader" "lines") rfl)⟩
  have CPok : PcOk K (He.ga K "Pair") := ⟨He.cls_ok (c.facts 33 (f := .cls "Pair") rfl), He.noat_ok (c.facts 34 (f := .noat "Pair" "machines") rfl), He.noat_ok (c.facts 35 (f := .noat "Pair" "states") rfl)⟩
  have CWok : RowOk K (He.ga K "Row") := ⟨He.cls_ok (c.facts 29 (f := .cls "Row") rfl), He.noat_ok (c.facts 30 (f := .noat "Row" "runs") rfl)⟩
  obtain ⟨ds_c, vd_c, b_compiled⟩ := FunD.binds1 (ps := ["reader", "turned"]) FD_compiled 1 0 nofun rfl fun T kV doc pm an cdv ct us its h1 h2 => match us, its, h1, h2 with | [_], [_], _, _ => ⟨_, rfl, rfl⟩
  obtain ⟨ds_r, vd_r, b_Row___init__⟩ := FunD.binds1 (ps := ["self", "cells", "runs"]) FD_Row___init__ 3 2 nofun rfl fun T kV doc pm an cdv ct us its h1 h2 => match us, its, h1, h2 with | [_, _, _], [_, _], _, _ => ⟨_, rfl, rfl⟩
  have e_r : ds_r = [] := by cases vd_r; rfl
  subst e_r
  refine ⟨fd_law, fun s v => FunD.bindsA (ps := ["_law_script"]) FD_law (fun _ _ _ _ _ _ us hl => match us, hl with | [_], _ => rfl) s [v] rfl, fun base _ _ => ?_⟩
  have c__law_draw := ok_draw (P := P) (w := w) (base := base) F__law_draw mg__law_draw b__law_draw G
  have c__law_pick := ok_pick (P := P) (w := w) (base := base) F__law_pick mg__law_pick b__law_pick G c__law_draw
  have c__law_word := ok_word (P := P) (w := w) (base := base) F__law_word mg__law_word b__law_word G c__law_draw
  have c__law_names := ok_names (P := P) (w := w) (base := base) F__law_names mg__law_names b__law_names G c__law_draw c__law_word
  have c__law_words := ok_words (P := P) (w := w) (base := base) F__law_words mg__law_words b__law_words G c__law_draw c__law_pick
  have c__law_goal := ok_goal (P := P) (w := w) (base := base) F__law_goal mg__law_goal b__law_goal G c__law_draw c__law_pick
  have c__law_ways := ok_ways (P := P) (w := w) (base := base) F__law_ways mg__law_ways b__law_ways G c__law_draw c__law_pick c__law_goal
  have c__law_line := ok_line (P := P) (w := w) (base := base) F__law_line mg__law_line b__law_line G c__law_draw c__law_goal c__law_ways
  have c__law_ten := ok_ten (P := P) (w := w) (base := base) F__law_ten mg__law_ten b__law_ten G c__law_draw
  have c__law_runs := ok_runs (P := P) (w := w) (base := base) F__law_runs mg__law_runs b__law_runs G c__law_draw c__law_ten
  have c__law_lines := ok_lines (P := P) (w := w) (base := base) F__law_lines mg__law_lines b__law_lines G c__law_draw c__law_words c__law_names c__law_line
  have c__law_near := ok_near (P := P) (w := w) (base := base) F__law_near mg__law_near b__law_near G c__law_draw c__law_pick c__law_line
  have c__law_settle := ok_lset (P := P) (w := w) (base := base) F__law_settle mg__law_settle b__law_settle G
  have c__law_step := ok_lstep (P := P) (w := w) (base := base) F__law_step mg__law_step b__law_step G c__law_settle
  have c__law_far := ok_lfar (P := P) (w := w) (base := base) F__law_far mg__law_far b__law_far G c__law_step
  have c__law_ahead := ok_lahead (P := P) (w := w) (base := base) F__law_ahead mg__law_ahead b__law_ahead G c__law_step c__law_far
  have c__law_book := ok_book (P := P) (w := w) (base := base) F__law_book mg__law_book b__law_book G
  have c__law_events := ok_lev (P := P) (w := w) (base := base) F__law_events mg__law_events b__law_events G c__law_ahead
  have c__law_part := ok_lpart (P := P) (w := w) (base := base) F__law_part mg__law_part b__law_part G c__law_settle c__law_events
  have c_settle := ok_pset (P := P) (w := w) (base := base) (CM := He.ga K "Machine") F_settle mg_settle b_settle G GR CMok
  have c_begin := ok_begin (P := P) (w := w) (base := base) (CM := He.ga K "Machine") F_begin mg_begin b_begin G c_settle
  have c_exit_of := ok_exit (P := P) (w := w) (base := base) F_exit_of mg_exit_of b_exit_of G
  have c_kept_by := ok_kept (P := P) (w := w) (base := base) F_kept_by mg_kept_by b_kept_by G
  have c_step := ok_pstep (P := P) (w := w) (base := base) (CM := He.ga K "Machine") F_step mg_step b_step G CMok c_settle c_exit_of c_kept_by
  have c_hop := ok_hop (P := P) (w := w) (base := base) (CM := He.ga K "Machine") F_hop mg_hop b_hop G c_step
  have c_advance := ok_adv (P := P) (w := w) (base := base) (CM := He.ga K "Machine") F_advance mg_advance b_advance G c_hop
  have c_happens := ok_hap (P := P) (w := w) (base := base) (CM := He.ga K "Machine") F_happens mg_happens b_happens G c_hop c_advance
  have k_Machine := ok_minit (P := P) (w := w) (base := base) (CM := He.ga K "Machine") F_Machine___init__ G CMok
  have m_Machine : C8.Mak P w K mg base 1 "Machine" (He.ga K "Machine") _ [] := ⟨_, _, _, [], He.mkr_ok (c.facts 27 (f := .mkr "Machine") rfl), k_Machine, He.glo_ok X G0 (c.facts 23 (f := .glo "Machine") rfl), b_Machine___init__, .nil⟩
  have c_numbered := ok_num (P := P) (w := w) (base := base) F_numbered mg_numbered b_numbered G
  have k_names := ok_rnames (P := P) (w := w) (base := base) (CR := He.ga K "Reader") F_Reader_names G CRok
  have c_names : C8.Met P w K mg base 1 (He.ga K "Reader") "names" _ [] := ⟨_, _, _, [], He.cls_ok (c.facts 19 (f := .cls "Reader") rfl), He.meth_ok (c.facts 21 (f := .meth "Reader" "names") rfl), k_names, b_Reader_names, .nil⟩
  have k_compiled := ok_comp (P := P) (w := w) (base := base) (CM := He.ga K "Machine") (CR := He.ga K "Reader") FD_compiled G CRok het m_Machine c_names c_numbered
  have c_compiled : C8.Cal P w K mg base 3 "compiled" _ [.ref (He.dflAt ("compiled", none) 0 K)] := ⟨_, _, _, ds_c, k_compiled, mg_compiled, FD_compiled.kp, b_compiled, vd_c⟩
  have k_Pair := ok_pinit (P := P) (w := w) (base := base) (CM := He.ga K "Machine") (CR := He.ga K "Reader") (CP := He.ga K "Pair") F_Pair___init__ G CPok c_compiled c_begin
  have m_Pair : C8.Mak P w K mg base 4 "Pair" (He.ga K "Pair") _ [] := ⟨_, _, _, [], He.mkr_ok (c.facts 39 (f := .mkr "Pair") rfl), k_Pair, He.glo_ok X G0 (c.facts 32 (f := .glo "Pair") rfl), b_Pair___init__, .nil⟩
  have k_moved := ok_moved (P := P) (w := w) (base := base) (CM := He.ga K "Machine") (CP := He.ga K "Pair") F_Pair_moved G CPok c_advance
  have c_moved : C8.Met P w K mg base 5 (He.ga K "Pair") "moved" _ [] := ⟨_, _, _, [], He.cls_ok (c.facts 33 (f := .cls "Pair") rfl), He.meth_ok (c.facts 37 (f := .meth "Pair" "moved") rfl), k_moved, b_Pair_moved, .nil⟩
  have k_first := ok_first (P := P) (w := w) (base := base) (CM := He.ga K "Machine") (CP := He.ga K "Pair") F_Pair_first G CPok c_happens c_moved
  have c_first : C8.Met P w K mg base 6 (He.ga K "Pair") "first" _ [] := ⟨_, _, _, [], He.cls_ok (c.facts 33 (f := .cls "Pair") rfl), He.meth_ok (c.facts 36 (f := .meth "Pair" "first") rfl), k_first, b_Pair_first, .nil⟩
  have k_unlike := ok_unl (P := P) (w := w) (base := base) (CM := He.ga K "Machine") (CP := He.ga K "Pair") F_Pair_unlike G c_first
  have c_unlike : C8.Met P w K mg base 7 (He.ga K "Pair") "unlike" _ [] := ⟨_, _, _, [], He.cls_ok (c.facts 33 (f := .cls "Pair") rfl), He.meth_ok (c.facts 38 (f := .meth "Pair" "unlike") rfl), k_unlike, b_Pair_unlike, .nil⟩
  have c_check_cells := ok_chkT (P := P) (w := w) (base := base) F_check_cells mg_check_cells b_check_cells G
  have c_merged := ok_merged (P := P) (w := w) (base := base) F_merged mg_merged b_merged G
  have k_Row := ok_rinit (P := P) (w := w) (base := base) (CW := He.ga K "Row") FD_Row___init__ G CWok c_check_cells c_merged
  have m_Row : C8.Mak P w K mg base 2 "Row" (He.ga K "Row") _ [] := ⟨_, _, _, [], He.mkr_ok (c.facts 31 (f := .mkr "Row") rfl), k_Row, He.glo_ok X G0 (c.facts 28 (f := .glo "Row") rfl), b_Row___init__, .nil⟩
  have c_check_cells := ok_chkL (P := P) (w := w) (base := base) F_check_cells mg_check_cells b_check_cells G
  have k_of := ok_of (P := P) (w := w) (base := base) (CW := He.ga K "Row") F_Row_of_runs G c_check_cells m_Row
  have cm_of_runs : CmR P w K mg base 4 (He.ga K "Row") "of_runs" (spOf (He.ga K "Row")) := ⟨.type "type", _, _, ⟨xa, He.eqO_ok xc⟩, He5.cmet_of x8 x9, (k_of.raw b_Row_of_runs .nil).imp fun vs H Q E h => by rw [List.append_nil]; exact h⟩
  have c_to_row := ok_torow (P := P) (w := w) (base := base) (CW := He.ga K "Row") F_to_row mg_to_row b_to_row G ins_Row g_Row
  have c_first_unlike := ok_fu (P := P) (w := w) (base := base) (CR := He.ga K "Reader") (CW := He.ga K "Row") F_first_unlike mg_first_unlike b_first_unlike G CWok m_Pair c_to_row c_unlike
  have c_parting_place := ok_part (P := P) (w := w) (base := base) (CR := He.ga K "Reader") (CW := He.ga K "Row") F_parting_place mg_parting_place b_parting_place G c_first_unlike
  have c_fits_name := ok_fname (P := P) (w := w) (base := base) F_fits_name mg_fits_name b_fits_name G
  have c_fits_ways := ok_fways (P := P) (w := w) (base := base) F_fits_ways mg_fits_ways b_fits_ways G
  have c_fits_line := ok_fline (P := P) (w := w) (base := base) F_fits_line mg_fits_line b_fits_line G g_SIZES g_LEAST g_GREATEST kd_SIZES kd_LEAST kd_GREATEST hS hL hG hN c_fits_ways
  have c_tidy_line := ok_tidy (P := P) (w := w) (base := base) F_tidy_line mg_tidy_line b_tidy_line G
  have c_targets_of := ok_tg (P := P) (w := w) (base := base) F_targets_of mg_targets_of b_targets_of G
  have c_check_lines := ok_ckl (P := P) (w := w) (base := base) F_check_lines mg_check_lines b_check_lines G c_fits_name c_fits_line c_targets_of
  have c_silent_ways := ok_sw (P := P) (w := w) (base := base) F_silent_ways mg_silent_ways b_silent_ways G GR c_targets_of
  have c_reached := ok_rch (P := P) (w := w) (base := base) F_reached mg_reached b_reached G
  have c_check_ways := ok_ckw (P := P) (w := w) (base := base) F_check_ways mg_check_ways b_check_ways G c_silent_ways c_reached
  have k_Reader := ok_rdinit (P := P) (w := w) (base := base) (CR := He.ga K "Reader") F_Reader___init__ G CRok c_check_lines c_tidy_line c_check_ways
  have m_Reader : C8.Mak P w K mg base 4 "Reader" (He.ga K "Reader") _ [] := ⟨_, _, _, [], He.mkr_ok (c.facts 22 (f := .mkr "Reader") rfl), k_Reader, He.glo_ok X G0 (c.facts 18 (f := .glo "Reader") rfl), b_Reader___init__, .nil⟩
  cases hfa.symm.trans mg_law
  exact ok_law (P := P) (w := w) (base := base) (CR := He.ga K "Reader") (CW := He.ga K "Row") F_law G g_Row c__law_draw c__law_lines c__law_near c__law_runs c__law_part c__law_book m_Reader cm_of_runs c_parting_place
end
end K21
end

set_option maxRecDepth 100000
set_option maxHeartbeats 0
open PySem PySem.W PySem.Calls PyProof.Rows
theorem PySem.Challenge.cw_splitalike_k21_whole_far_partings_holds : PySem.Challenge.rw_splitalike_k21_whole_far_partings.Holds := by
  exact K21.holds_of fun X G hf c => K21.facts X G hf c
