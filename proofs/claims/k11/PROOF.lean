import PyProof.Rows.All
import Wide.All
import OpenK.AllK
import Wide.FinOn
import HandS.ForMost
import HandS.ForExc
import HandS.IsInst
import HandS.Walk
import HandS.Steps
import HandS.DictComp
import HandS.DictTup
import HandS.TupSets
import HandS.TupLen
import HandS.Conv
import HandS.OwnEq
import HandS.Codes
import HandS.Zip
import HandS.Star
import HandS.Style
import HandS.More
import HandS.ClsMeth
import HandS.GenCall
import HandS.GenList
import HandS.Property
import HandS.Defaults
import HandS.NoneIn
import HandS.Text
import HandS.SetFor
import KE.DataFind
import HandS.SortInts
import KE.KDictDisplayH
import HandS.FStr
import HandS.SetKeys
import KE.KCallOwn
import PyProof.Rows.ReprR
import PyProof.DictMoreH
import HandS.StrMore
import HandS.Iter
import KE.KDictList
import PyProof.StrWalks
import KE.GoesMore
import PyProof.ReprLen
import PyProof.Rows.SortStr
import PyProof.Rows.TmSorted
import PyProof.Rows.StrMeet
import KE.RegKIsAll
import HandS.Exc
import HandS.ExcOwn
import HandS.WordsExc
import HandS.ExcInit
import HandS.ExcField
import KE.KTryMore
import KE.KExcIs
import KE.KIsAll
import HandS.Small
import HandS.GenBody
import HandS.GenYield
import PyProof.CallFns
import KE.KOpsOwn
import PyProof.ReprRoads
import HandS.Finally
import HandS.WordsDict
import PySem.Challenge.RW_ownholes_k11_templates
set_option Elab.async false
set_option maxRecDepth 100000
set_option maxHeartbeats 2000000
/-! Eg: step lemmas: each reading of the hand layer, from the left, as one backward step. -/
namespace Eg
open PySem L2
section
variable {σ σ' : L2.St} {H H' : Hp} {Q : VK} {i : Nat} {v x y z : V} {ta tb tc te tv : TE} {r r' : R2} {K : PySem.W.Frag} {p q a C dx : Addr} {t u c : TT} {D : Ends} {t1 t2 : TS} {b : Bool} {fs : List (Str × V)} {f : Str} {o o' : HO}
/-! heaps -/
theorem upd_old {o1 : HO} (h : H p = some o) (hp : H q = none) : upd H q o1 p = some o := by
  rw [upd_ne (ne_of_none h hp)]
  exact h
theorem upd_mut {o1 : HO} (hn : p ≠ q) (h : H p = some o) : upd H q o1 p = some o := by
  rw [upd_ne hn]
  exact h
/-- unallocated ahead of an allocation was unallocated before -/
theorem none_back {o1 : HO} (h : upd H q o1 p = none) : H p = none := by
  unfold upd at h
  by_cases e : p = q
  · rw [if_pos e] at h
    cases h
  · rw [if_neg e] at h
    exact h
/-! expressions -/
theorem w_op (h : ta σ H fun x H1 => tb σ H1 fun y H2 => r x y H2 Q) : tOp r ta tb σ H Q := h
theorem w_un {r : V → Hp → VK → Prop} (h : ta σ H fun x H1 => r x H1 Q) : tUn r ta σ H Q := h
theorem w_var (h : σ[i]? = some (some v)) (q : Q v H) : tVar i σ H Q := ⟨v, h, q⟩
theorem w_c (q : Q v H) : tC v σ H Q := q
theorem w_tup {t : TA} (h : t σ H fun xs H1 => xs.length ≤ sizeLine ∧ ∀ p, H1 p = none → Q (.ref p) (upd H1 p (.tup xs))) : tTup t σ H Q := h
theorem w_lst {t : TA} (h : t σ H fun xs H1 => xs.length ≤ sizeLine ∧ ∀ p, H1 p = none → Q (.ref p) (upd H1 p (.lst xs))) : tLst t σ H Q := h
theorem w_sz {xs : List V} {A : Prop} (h : xs.length ≤ 1000) (q : A) : xs.length ≤ sizeLine ∧ A := ⟨Nat.le_trans h (by decide), q⟩
theorem w_cb {r : List V → Hp → VK → Prop} {t : TA} (h : t σ H fun vs H1 => r vs H1 Q) : tCB r t σ H Q := h
theorem w_nil {Q : List V → Hp → Prop} (q : Q [] H) : tNil σ H Q := q
theorem w_cons {tr : TA} {Q : List V → Hp → Prop} (h : ta σ H fun x H1 => tr σ H1 fun xs H2 => Q (x :: xs) H2) : tCons ta tr σ H Q := h
theorem w_call {sp : Sp} {dvs : List V} {E : XK} {t : TA} (h : t σ H fun vs H1 => sp (vs ++ dvs) H1 Q E) : tCall sp dvs E t σ H Q := h
theorem w_bm {T : String} {r : V → List V → Hp → VK → Prop} {t : TA} (h : ta σ H fun x H1 => tyV K T x H1 ∧ t σ H1 fun xs H2 => r x xs H2 Q) : tBM K T r ta t σ H Q := h
theorem w_bm0 {T : String} {r : V → List V → Hp → VK → Prop} (h : ta σ H fun x H1 => tyV K T x H1 ∧ r x [] H1 Q) : tBM0 K T r ta σ H Q := h
theorem w_tyl {xs : List V} {A : Prop} (h : SqL K H p xs) (q : A) : tyV K "list" (.ref p) H ∧ A := ⟨.inl ⟨rfl, _, h⟩, q⟩
theorem w_if {t : TT} (h : t σ H fun c H1 => if c = true then ta σ H1 Q else tb σ H1 Q) : tIf t ta tb σ H Q := h
theorem w_sl {r : V → Option Int → Option Int → Hp → VK → Prop} {tl th : TO} (h : te σ H fun x H1 => tl σ H1 fun l H2 => th σ H2 fun u H3 => r x l u H3 Q) : tSl r te tl th σ H Q := h
theorem w_nopart {Q : Option Int → Hp → Prop} (q : Q none H) : tNoPart σ H Q := q
theorem w_chain (h : ta σ H fun x H1 => tb σ H1 fun y H2 => r x y H2 fun z H3 => ∃ k, z = .bl k ∧ (if k = true then tc σ H3 fun w' H4 => r' y w' H4 Q else Q (.bl false) H3)) : tChain r r' ta tb tc σ H Q := h
/-! operators by values -/
theorem w_rI0 {g : Int → Int → V} {i j : Int} (q : Q (g i j) H) : rI0 g (.int i) (.int j) H Q := ⟨i, j, rfl, rfl, q⟩
theorem w_rI {C : Int → Int → Prop} {g : Int → Int → V} {i j : Int} (hc : C i j) (q : Q (g i j) H) : rI C g (.int i) (.int j) H Q := ⟨i, j, rfl, rfl, hc, q⟩
theorem w_rU {g : Int → V} {i : Int} (q : Q (g i) H) : rU g (.int i) H Q := ⟨i, rfl, q⟩
theorem w_eq (h : scal x y = true) (q : Q (.bl (decide (x = y))) H) : rEq x y H Q := ⟨h, q⟩
theorem w_ne (h : scal x y = true) (q : Q (.bl (!decide (x = y))) H) : rNe x y H Q := ⟨h, q⟩
theorem w_ixL {xs : List V} {i : Int} (hs : SqL K H p xs) (hv : atI xs i = some v) (q : Q v H) : rIxL K (.ref p) (.int i) H Q := ⟨p, xs, i, v, rfl, rfl, hs, hv, q⟩
theorem w_ixT {xs : List V} {i : Int} (hs : SqT K H p xs) (hv : atI xs i = some v) (q : Q v H) : rIxT K (.ref p) (.int i) H Q := ⟨p, xs, i, v, rfl, rfl, hs, hv, q⟩
theorem w_setL {xs : List V} {k : Int} {j : Nat} {R : Hp → Prop} (h : H p = some (.lst xs)) (hj : ixN xs.length k = some j) (q : R (upd H p (.lst (xs.set j v)))) : rSetL (.ref p) (.int k) v H R := ⟨p, xs, k, j, rfl, rfl, h, hj, q⟩
theorem w_append {xs : List V} (h : H p = some (.lst xs)) (hz : xs.length < 100000) (q : Q .non (upd H p (.lst (xs ++ [v])))) : rAppend (.ref p) [v] H Q := ⟨p, xs, v, rfl, rfl, h, Nat.lt_of_lt_of_le hz (by decide), q⟩
def fldLeaf (K : PySem.W.Frag) (f : Str) (Q : VK) (x : V) (H1 : Hp) : Prop := ∃ a C dx fs v, x = .ref a ∧ H1 a = some (.ins C dx fs) ∧ Cls K C ∧ NoAttr K C f ∧ fs.lookup f = some v ∧ Q v H1
theorem w_fld (h : ta σ H (fldLeaf K f Q)) : tFld K ta f σ H Q := h
theorem c_fld (h : H p = some (.ins C dx fs)) (hc : Cls K C) (hn : NoAttr K C f) (hl : fs.lookup f = some v) (q : Q v H) : fldLeaf K f Q (.ref p) H := ⟨p, C, dx, fs, v, rfl, h, hc, hn, hl, q⟩
/-! calls by values -/
/-! tests -/
theorem w_test {R : Bool → Hp → Prop} (h : te σ H fun x H' => ∃ k, x = .bl k ∧ R k H') : tTest te σ H R := h
theorem w_B {R : Bool → Hp → Prop} (h : te σ H fun x H' => ∃ k, x = .bl k ∧ R k H') : tB te σ H R := h
theorem w_bl {R : Bool → Hp → Prop} (q : R b H) : ∃ k, V.bl b = .bl k ∧ R k H := ⟨b, rfl, q⟩
theorem w_bl' {G : Bool → Prop} (q : G b) : ∃ k, V.bl b = .bl k ∧ G k := ⟨b, rfl, q⟩
theorem w_and {R : Bool → Hp → Prop} (h : t σ H fun c H1 => if c = true then u σ H1 R else R false H1) : tAnd t u σ H R := h
theorem w_or {R : Bool → Hp → Prop} (h : t σ H fun c H1 => if c = true then R true H1 else u σ H1 R) : tOr t u σ H R := h
theorem w_not {R : Bool → Hp → Prop} (h : t σ H fun c H1 => R (!c) H1) : tNot t σ H R := h
theorem w_andV (h : ta σ H fun x H1 => ∃ c, x = .bl c ∧ if c = true then tb σ H1 Q else Q (.bl false) H1) : tAndV ta tb σ H Q := h
theorem w_orV (h : ta σ H fun x H1 => ∃ c, x = .bl c ∧ if c = true then Q (.bl true) H1 else tb σ H1 Q) : tOrV ta tb σ H Q := h
theorem w_notV (h : ta σ H fun x H1 => ∃ c, x = .bl c ∧ Q (.bl (!c)) H1) : tNotV ta σ H Q := h
/-! statements -/
theorem w_seq (h : t1 { D with nx := t2 D } σ H) : tSeq t1 t2 D σ H := h
theorem w_next (h : D.nx σ H) : tNext D σ H := h
theorem w_brk (h : D.bk σ H) : tBreak D σ H := h
theorem w_cont (h : D.ct σ H) : tCont D σ H := h
theorem w_nx {f1 f3 f4 : L2.St → Hp → Prop} {f2 : VK} (h : f1 σ H) : Ends.nx ⟨f1, f2, f3, f4⟩ σ H := h
theorem w_rt {f1 f3 f4 : L2.St → Hp → Prop} {f2 : VK} (h : f2 v H) : Ends.rt ⟨f1, f2, f3, f4⟩ v H := h
theorem w_bk {f1 f3 f4 : L2.St → Hp → Prop} {f2 : VK} (h : f3 σ H) : Ends.bk ⟨f1, f2, f3, f4⟩ σ H := h
theorem w_ct {f1 f3 f4 : L2.St → Hp → Prop} {f2 : VK} (h : f4 σ H) : Ends.ct ⟨f1, f2, f3, f4⟩ σ H := h
theorem w_drop (h : te σ H fun _ H1 => D.nx σ H1) : tDrop te D σ H := h
theorem w_ret (h : te σ H D.rt) : tRet te D σ H := h
theorem w_retN (h : D.rt .non H) : tRetN D σ H := h
theorem w_ifS (h : c σ H fun b H1 => if b = true then t1 D σ H1 else t2 D σ H1) : tIfS c t1 t2 D σ H := h
theorem w_asg {g : TG} (h : te σ H fun x H1 => g x σ H1 D.nx) : tAsg te g D σ H := h
theorem w_gN {R : L2.St → Hp → Prop} (h : R (σ.set i (some v)) H) : gName i v σ H R := h
theorem w_gSub {to ti : TE} {s : TSet} {R : L2.St → Hp → Prop} (h : to σ H fun o H1 => ti σ H1 fun i H2 => s o i v H2 fun H3 => R σ H3) : gSub to ti s v σ H R := h
theorem w_gTup {n : Nat} {g : TGs} {xs : List V} {R : L2.St → Hp → Prop} (hs : SqT K H p xs) (hn : xs.length = n) (h : g xs σ H R) : gTup K n g (.ref p) σ H R := ⟨p, xs, rfl, hs, hn, h⟩
theorem w_gNil {R : L2.St → Hp → Prop} (h : R σ H) : gNil [] σ H R := ⟨rfl, h⟩
theorem w_gCons {g : TG} {gs : TGs} {xs : List V} {R : L2.St → Hp → Prop} (h : g v σ H fun σ' H' => gs xs σ' H' R) : gCons g gs (v :: xs) σ H R := ⟨v, xs, rfl, h⟩
theorem w_for {wi : TI} {g : TG} {tb : TS} (h : wi σ H fun J H1 => ∃ W : Nat → Nat → L2.St → Hp → Prop, (∃ m, W 0 m σ H1) ∧ ∀ i m σ H, W i m σ H →
    (J.stop i H ∧ D.nx σ H) ∨ (J.go i H ∧ ∃ N : L2.St → Hp → Prop, (∀ σ' H', N σ' H' → ∃ m', m' < m ∧ W (i + 1) m' σ' H') ∧ ∀ x H', J.yld i H x H' → g x σ H' fun σ2 H2 => tb { D with nx := N, ct := N, bk := D.nx } σ2 H2)) : tFor wi g tb D σ H := h
theorem w_lc {wi : TI} {g : TG} {tt : TT} {vs : List Nat} (h : wi σ H fun J H1 => ∀ D, H1 D = none → ∃ W : Nat → Nat → Hp → Prop, (∃ m, W 0 m (upd H1 D (.lst []))) ∧ ∀ i m H, W i m H →
  (J.stop i H ∧ Q (.ref D) H) ∨ (J.go i H ∧ ∃ Nx : Hp → Prop, (∀ H', Nx H' → ∃ m', m' < m ∧ W (i + 1) m' H') ∧ ∀ x H', J.yld i H x H' → g x (wipe σ vs) H' fun σ2 H2 => wipe σ2 vs = wipe σ vs ∧ tt σ2 H2 fun b H3 =>
    if b = true then te σ2 H3 fun y H4 => ∃ acc, H4 D = some (.lst acc) ∧ acc.length < sizeLine ∧ Nx (upd H4 D (.lst (acc ++ [y]))) else Nx H3)) : tLc wi g tt te vs σ H Q := h
theorem w_yes {R : Bool → Hp → Prop} (h : R true H) : tYes σ H R := h
theorem w_sig (e : σ' = σ) {t : TS} (h : t D σ H) : t D σ' H := by
  rw [e]
  exact h
theorem w_par {j : Nat} {t : TA} (h : t σ H fun vs H1 => ∃ v w, vs = [v, w] ∧ D.nx ((σ.set i (some v)).set j (some w)) H1) : tPar i j t D σ H := h
theorem c_par {G : V → V → Prop} {v w : V} (q : G v w) : ∃ x y, [v, w] = [x, y] ∧ G x y := ⟨v, w, rfl, q⟩
theorem c_cat {xs zs : List V} (h1 : H p = some (.lst xs)) (h2 : H q = some (.lst zs)) (hz : xs.length + zs.length < 100000) (k : ∀ r, H r = none → Q (.ref r) (upd H r (.lst (xs ++ zs)))) : rCat (.ref p) (.ref q) H Q :=
  ⟨p, q, xs, zs, rfl, rfl, h1, h2, Nat.le_trans (Nat.le_of_lt hz) (by decide), k⟩
/-! leaves by name -/
def rngLeaf (R : It → Hp → Prop) (vs : List V) (H1 : Hp) : Prop := ∃ j : Int, vs = [.int j] ∧ -(2 ^ 62) ≤ j ∧ j < 2 ^ 62 ∧ R (Itr 0 j.toNat) H1
def rng2Leaf (R : It → Hp → Prop) (vs : List V) (H1 : Hp) : Prop := ∃ i j : Int, vs = [.int i, .int j] ∧ (-(2 ^ 62) ≤ i ∧ i < 2 ^ 62 ∧ -(2 ^ 62) ≤ j ∧ j < 2 ^ 62) ∧ R (Itr i (j - i).toNat) H1
def lstLeaf (K : PySem.W.Frag) (R : It → Hp → Prop) (x : V) (H1 : Hp) : Prop := ∃ a, x = .ref a ∧ (∃ xs, SqL K H1 a xs) ∧ R (Itl K a) H1
def tupLeaf (K : PySem.W.Frag) (R : It → Hp → Prop) (x : V) (H1 : Hp) : Prop := ∃ a, x = .ref a ∧ (∃ xs, SqT K H1 a xs) ∧ R (Itt K a) H1
def zipLeaf (K : PySem.W.Frag) (R : It → Hp → Prop) (vs : List V) (H1 : Hp) : Prop := ∃ a b xs ys, vs = [.ref a, .ref b] ∧ SqL K H1 a xs ∧ SqL K H1 b ys ∧ R (Itz K a b) H1
def keysLeaf (R : It → Hp → Prop) (x : V) (H1 : Hp) : Prop := ∃ d o, x = .ref d ∧ ((∃ kvs, H1 d = some (.frz o (.dK kvs)) ∧ R (Itk d o kvs) H1) ∨ ∃ kvs, H1 d = some (.frz o (.dT kvs)) ∧ R (Itkt d o kvs) H1)
def partLeaf (Q : Option Int → Hp → Prop) (x : V) (H1 : Hp) : Prop := ∃ i, x = .int i ∧ Q (some i) H1
def dinLeaf (neg : Bool) (Q : VK) (y x : V) (H2 : Hp) : Prop := ∃ a o, x = .ref a ∧ DGet H2 a y o ∧ Q (.bl (if neg then !o.isSome else o.isSome)) H2
theorem w_part {Q : Option Int → Hp → Prop} (h : te σ H (partLeaf Q)) : tPart te σ H Q := h
theorem c_part {Q : Option Int → Hp → Prop} {j : Int} (q : Q (some j) H) : partLeaf Q (.int j) H := ⟨j, rfl, q⟩
theorem w_iL {tl : TE} {R : It → Hp → Prop} (h : tl σ H (lstLeaf K R)) : iList K tl σ H R := h
theorem c_iL {R : It → Hp → Prop} {xs : List V} (hs : SqL K H p xs) (q : R (Itl K p) H) : lstLeaf K R (.ref p) H := ⟨p, rfl, ⟨_, hs⟩, q⟩
theorem w_iT {tl : TE} {R : It → Hp → Prop} (h : tl σ H (tupLeaf K R)) : iTup K tl σ H R := h
theorem c_iT {R : It → Hp → Prop} {xs : List V} (hs : SqT K H p xs) (q : R (Itt K p) H) : tupLeaf K R (.ref p) H := ⟨p, rfl, ⟨_, hs⟩, q⟩
theorem w_iZ {t : TA} {R : It → Hp → Prop} (h : t σ H (zipLeaf K R)) : iZip K t σ H R := h
theorem c_iZ {R : It → Hp → Prop} {xs ys : List V} (h1 : SqL K H p xs) (h2 : SqL K H q ys) (k : R (Itz K p q) H) : zipLeaf K R [.ref p, .ref q] H := ⟨p, q, xs, ys, rfl, h1, h2, k⟩
theorem w_iR1 {t : TA} {R : It → Hp → Prop} (h : t σ H (rngLeaf R)) : iRng1 t σ H R := h
theorem c_iR1 {R : It → Hp → Prop} {n : Int} (h1 : -(2 ^ 62) ≤ n) (h2 : n < 2 ^ 62) (q : R (Itr 0 n.toNat) H) : rngLeaf R [.int n] H := ⟨n, rfl, h1, h2, q⟩
theorem w_iR2 {t : TA} {R : It → Hp → Prop} (h : t σ H (rng2Leaf R)) : iRng2 t σ H R := h
theorem c_iR2 {R : It → Hp → Prop} {n m : Int} (h1 : -(2 ^ 62) ≤ n ∧ n < 2 ^ 62 ∧ -(2 ^ 62) ≤ m ∧ m < 2 ^ 62) (q : R (Itr n (m - n).toNat) H) : rng2Leaf R [.int n, .int m] H := ⟨n, m, rfl, h1, q⟩
theorem w_iK {td : TE} {R : It → Hp → Prop} (h : td σ H (keysLeaf R)) : iKeys td σ H R := h
theorem w_din {ty td : TE} (h : ty σ H fun y H1 => td σ H1 fun x H2 => dinLeaf false Q y x H2) : tDIn ty td σ H Q := h
theorem w_dnin {ty td : TE} (h : ty σ H fun y H1 => td σ H1 fun x H2 => dinLeaf true Q y x H2) : tDNotIn ty td σ H Q := h
/-! what is known of a branch -/
theorem br {c : Bool} {A B : Prop} (h1 : c = true → A) (h2 : c = false → B) : if c = true then A else B := by
  cases c with
  | true => exact h1 rfl
  | false => exact h2 rfl
theorem brT {c : Bool} {A B : Prop} (h : c = true) (h1 : A) : if c = true then A else B := by rw [if_pos h]; exact h1
theorem brF {c : Bool} {A B : Prop} (h : c = false) (h1 : B) : if c = true then A else B := by rw [if_neg (by rw [h]; decide)]; exact h1
theorem brD {c : Prop} [Decidable c] {A B : Prop} (h1 : c → A) (h2 : ¬ c → B) : if decide c = true then A else B := br (fun h => h1 (of_decide_eq_true h)) (fun h => h2 (of_decide_eq_false h))
theorem brDT {c : Prop} [Decidable c] {A B : Prop} (h : c) (h1 : A) : if decide c = true then A else B := brT (decide_eq_true h) h1
theorem brDF {c : Prop} [Decidable c] {A B : Prop} (h : ¬ c) (h1 : B) : if decide c = true then A else B := brF (decide_eq_false h) h1
theorem int_eq {i j : Int} : decide (V.int i = V.int j) = decide (i = j) := by
  by_cases e : i = j
  · subst e; simp
  · rw [decide_eq_false e, decide_eq_false (fun h => e (V.int.inj h))]
theorem str_eq {i j : Str} : decide (V.str i = V.str j) = decide (i = j) := by
  by_cases e : i = j
  · subst e; simp
  · rw [decide_eq_false e, decide_eq_false (fun h => e (V.str.inj h))]
end
/-! calls of built-ins by named readings -/
def rLenQ (K : PySem.W.Frag) : List V → Hp → VK → Prop := fun xs H Q => ∃ p ys, xs = [V.ref p] ∧ (SqL K H p ys ∨ SqT K H p ys) ∧ Q (.int (ys.length : Nat)) H
def rAbsQ : List V → Hp → VK → Prop := fun xs H Q => ∃ i, xs = [V.int i] ∧ Q (.int (if i < 0 then -i else i)) H
def rMin2Q : List V → Hp → VK → Prop := fun xs H Q => ∃ i j, xs = [V.int i, V.int j] ∧ Q (.int (if j < i then j else i)) H
def rMax2Q : List V → Hp → VK → Prop := fun xs H Q => ∃ i j, xs = [V.int i, V.int j] ∧ Q (.int (if j > i then j else i)) H
def rIntQ : List V → Hp → VK → Prop := fun xs H Q => (∃ i, xs = [V.int i] ∧ Q (.int i) H) ∨ ∃ k, xs = [V.bl k] ∧ Q (.int (if k then 1 else 0)) H
def rIsNQ : R2 := fun x y H Q => y = .non ∧ Q (.bl (decide (x = .non))) H
def rNotNQ : R2 := fun x y H Q => y = .non ∧ Q (.bl (!decide (x = .non))) H
section
variable {X : Cx}
theorem cr_len : CallR X (.builtin "len") (rLenQ X.K) := call_len_seq
theorem cr_abs : CallR X (.builtin "abs") rAbsQ := call_abs
theorem cr_min2 (h : X.calm = true) : CallR X (.builtin "min") rMin2Q := call_min2 h
theorem cr_max2 (h : X.calm = true) : CallR X (.builtin "max") rMax2Q := call_max2 h
theorem cr_int : CallR X (.type "int") rIntQ := call_int1
theorem opr_isN : OpR X (compareOp .Is) rIsNQ := op_isN
end
section
variable {σ σ' : L2.St} {H H' : Hp} {Q : VK} {i : Nat} {v x y z : V} {ta tb tc te tv td ty : TE} {K : PySem.W.Frag} {p q a C dx : Addr} {D : Ends} {b : Bool} {o : HO} {n m : Int}
theorem c_len {ys : List V} (h : SqL K H p ys) (q : Q (.int (ys.length : Nat)) H) : rLenQ K [V.ref p] H Q := ⟨p, ys, rfl, .inl h, q⟩
theorem c_abs (q : Q (.int (if n < 0 then -n else n)) H) : rAbsQ [V.int n] H Q := ⟨n, rfl, q⟩
theorem c_min2 (q : Q (.int (if m < n then m else n)) H) : rMin2Q [V.int n, V.int m] H Q := ⟨n, m, rfl, q⟩
theorem c_max2 (q : Q (.int (if m > n then m else n)) H) : rMax2Q [V.int n, V.int m] H Q := ⟨n, m, rfl, q⟩
theorem c_int (q : Q (.int n) H) : rIntQ [V.int n] H Q := .inl ⟨n, rfl, q⟩
theorem c_isN (q : Q (.bl (decide (x = .non))) H) : rIsNQ x .non H Q := ⟨rfl, q⟩
theorem c_notN (q : Q (.bl (!decide (x = .non))) H) : rNotNQ x .non H Q := ⟨rfl, q⟩
theorem c_isi {t u : Value} {c : V} (hc : ClsV c u) (ht : TyX K H x t) (hk : PySem.W.kitOne K t u = some b) (q : Q (.bl b) H) : rIsi K [x, c] H Q := ⟨x, c, t, u, b, rfl, hc, ht, hk, q⟩
theorem c_popAt {xs : List V} {k : Nat} (h : H p = some (.lst xs)) (hn : (0 : Int) ≤ n ∧ n < xs.length ∧ xs.length < 100000) (hk : n = (k : Int)) (hv : xs[k]? = some v) (q : Q v (upd H p (.lst (xs.eraseIdx k)))) : rPopAt (.ref p) [.int n] H Q := by
  refine ⟨p, xs, n, k, v, rfl, rfl, h, by omega, by omega, ?_, hv, q⟩
  subst hk
  unfold seqIndex?
  have h0 : ¬ ((k : Int) < 0) := by omega
  rw [if_neg h0]
  have h2 : (decide (0 ≤ (k : Int)) && decide ((k : Int) < (xs.length : Int))) = true := by simp; omega
  rw [if_pos h2]
  simp
/-! dicts -/
theorem w_dget (h : td σ H fun x H1 => ty σ H1 fun y H2 => ∃ a v, x = .ref a ∧ DGet H2 a y (some v) ∧ Q v H2) : tDGet td ty σ H Q := h
theorem w_dput (h : tv σ H fun v H1 => td σ H1 fun x H2 => ty σ H2 fun y H3 => ∃ a H4, x = .ref a ∧ DPut H3 a y v H4 ∧ D.nx σ H4) : sDPut td ty tv D σ H := h
theorem w_dnewT (h : ∀ p, H p = none → Q (.ref p) (upd H p (.dT []))) : tDNewT σ H Q := h
theorem w_dnewK (h : ∀ p, H p = none → Q (.ref p) (upd H p (.dK []))) : tDNewK σ H Q := h
/-! comprehensions -/
theorem w_wipe {vs : List Nat} {A : Prop} (hw : wipe σ' vs = wipe σ vs) (q : A) : wipe σ' vs = wipe σ vs ∧ A := ⟨hw, q⟩
/-! what stays of tuples -/
theorem frame_at (hf : ∀ b, b ≠ a → H' b = H b) (hn : p ≠ a) (h : H p = some o) : H' p = some o := by
  rw [hf p hn]
  exact h
theorem same_new {H0 : Hp} {o1 : HO} (h : Same H0 H) (hp : H p = none) : Same H0 (upd H p o1) := fun b o hb => upd_old (h b o hb) hp
/-- changed at p, which H0 does not know -/
theorem same_mut {H0 : Hp} {o1 : HO} (h : Same H0 H) (hp : H0 p = none) : Same H0 (upd H p o1) := fun b o hb => upd_mut (ne_of_none hb hp) (h b o hb)
end
section
variable {σ σ' : L2.St} {H H' : Hp} {Q : VK} {i : Nat} {v x y z : V} {ta tb tc te tv td ty : TE} {K : PySem.W.Frag} {p q a C dx : Addr} {D : Ends} {b : Bool} {o : HO} {n m : Int} {fs : List (Str × V)} {f mm : Str} {sp : Sp} {dvs : List V} {E : XK} {t : TA}
/-! fields, methods, instances -/
def sfldLeaf (K : PySem.W.Frag) (f : Str) (y : V) (R : Hp → Prop) (x : V) (H2 : Hp) : Prop := ∃ a C dx fs, x = .ref a ∧ H2 a = some (.ins C dx fs) ∧ Cls K C ∧ NoAttr K C f ∧ fs.length < 1000 ∧ R (upd H2 a (.ins C dx (putF f y fs)))
theorem w_sfld (h : tv σ H fun y H1 => ta σ H1 (sfldLeaf K f y (D.nx σ))) : sFld K ta tv f D σ H := h
theorem c_sfld {R : Hp → Prop} (h : H p = some (.ins C dx fs)) (hc : Cls K C) (hn : NoAttr K C f) (hl : fs.length < 1000) (q : R (upd H p (.ins C dx (putF f y fs)))) : sfldLeaf K f y R (.ref p) H := ⟨p, C, dx, fs, rfl, h, hc, hn, hl, q⟩
def methLeaf (C : Addr) (mm : Str) (sp : Sp) (dvs : List V) (E : XK) (t : TA) (σ : L2.St) (Q : VK) (x : V) (H1 : Hp) : Prop := ∃ a dx fs, x = .ref a ∧ H1 a = some (.ins C dx fs) ∧ fs.lookup mm = none ∧ t σ H1 fun vs H2 => sp (x :: (vs ++ dvs)) H2 Q E
theorem w_meth (h : ta σ H (methLeaf C mm sp dvs E t σ Q)) : tMeth C mm sp dvs E ta t σ H Q := h
theorem c_meth (h : H p = some (.ins C dx fs)) (hl : fs.lookup mm = none) (q : t σ H fun vs H2 => sp (.ref p :: (vs ++ dvs)) H2 Q E) : methLeaf C mm sp dvs E t σ Q (.ref p) H := ⟨p, dx, fs, rfl, h, hl, q⟩
def makeLeaf (C : Addr) (sp : Sp) (dvs : List V) (E : XK) (Q : VK) (vs : List V) (H1 : Hp) : Prop := ∀ x dx, H1 x = none → H1 dx = none → dx ≠ x → sp (.ref x :: (vs ++ dvs)) (upd (upd H1 dx (.own x)) x (.ins C dx [])) (fun v H2 => v = .non ∧ Q (.ref x) H2) E
theorem w_make {t : TA} (h : t σ H (makeLeaf C sp dvs E Q)) : tMake C sp dvs E t σ H Q := h
end
section
variable {X : Cx}
theorem peE {e : Expr} {t t' : TE} (h : PE X e t) (q : t = t') : PE X e t' := q ▸ h
theorem ptsE {e : List Expr} {t t' : TT} (h : PTs X e t) (q : t = t') : PTs X e t' := q ▸ h
theorem pgE {e : Expr} {t t' : TG} (h : PG X e t) (q : t = t') : PG X e t' := q ▸ h
end
end Eg

/-! DTx: dicts whose keys are tuples: comprehensions that make them, == and != of two, sorted of one. -/
namespace DTx
open PySem PySem.Spec PyProof.Rows L2
/-- the reading of such a comprehension -/
def tDt (wi : TI) (g : TG) (tt : TT) (tk tv : TE) (vs : List Nat) : TE := fun σ H Q => wi σ H fun J H1 => ∀ D, H1 D = none →
  ∃ W : Nat → Nat → Hp → Prop, (∃ m, W 0 m (upd H1 D (.dT []))) ∧ ∀ i m H, W i m H → (J.stop i H ∧ Q (.ref D) H) ∨
    (J.go i H ∧ ∃ Nx : Hp → Prop, (∀ H', Nx H' → ∃ m', m' < m ∧ W (i + 1) m' H') ∧ ∀ x H', J.yld i H x H' → g x (wipe σ vs) H' fun σ2 H2 => wipe σ2 vs = wipe σ vs ∧ tt σ2 H2 fun b H3 =>
      if b = true then tk σ2 H3 fun y H4 => tv σ2 H4 fun z H5 => ∃ ps k c, y = .ref c ∧ H5 c = some (.tup (k.map kV)) ∧ H5 D = some (.dT ps) ∧ ps.length < sizeLine ∧ Nx (upd H5 D (.dT (putK ps k z))) else Nx H3)
section
variable {X : Cx}
/-- the block of a comprehension, in short -/
abbrev InBlk (X : Cx) (scope : Scope) (φ : Cx → Prop) : Prop := ∀ (s : Shared) (H : Hp) (C : Addr) (cl : List (Str × Addr)) (fp : List Addr), φ (X.blk s H scope (compEnvC scope cl C X.env) fp)
end
end DTx

/-! DTx: == and != of two dicts with tuple keys and int values; sorted of such a dict. -/
namespace DTx
open PySem PySem.Spec PyProof.Rows L2 PySem.Calls
section
variable {prog : Program} {w : World} {T : Type} [DecidableEq T] {knd : HeapKind prog w T} {A : Around} {E : Value → Shared → Prop} {s : Shared}
/-- the ints that stand as values -/
def intV : Value → Option Int
  | .int i _ => some i
  | _ => none
/-- whether all pairs of one stand in the other -/
def subD (xs ys : List (T × Addr × Value)) : Bool := xs.all fun x => decide (((atKey ys x.1).map fun p => intV p.2) = some (intV x.2.2))
end
/-! over the layer -/
theorem pair_at {α β : Type} {F : α → β → Prop} {us : List α} {vs : List β} (r : Paired F us vs) : ∀ {j : Nat} {y : β}, vs[j]? = some y → ∃ x, us[j]? = some x ∧ F x y := by
  induction r with
  | nil => intro j y h; simp at h
  | @cons a b as bs hab t ih =>
    intro j y h
    cases j with
    | zero => exact ⟨a, rfl, by rw [← Option.some.inj (show some b = some y from h)]; exact hab⟩
    | succ j => exact ih (show bs[j]? = some y from h)
def isIntV : V → Prop := fun v => ∃ i, v = .int i
/-- the answer: the same pairs -/
def sameD (ks ls : List (List Key × V)) : Bool := ks.length == ls.length && ks.all fun p => decide (valV ls p.1 = some p.2)
def rEqT (neg : Bool) : R2 := fun x y H Q => ∃ a b ks ls, x = .ref a ∧ y = .ref b ∧ Rd H a (.dT ks) ∧ Rd H b (.dT ls) ∧ (∀ p ∈ ks, isIntV p.2) ∧ (∀ p ∈ ls, isIntV p.2) ∧ Q (.bl (if neg then !sameD ks ls else sameD ks ls)) H
theorem KT.ints {H : Hp} {ks : List (List Key × V)} {xs : List (List Key × Addr × Value)} (r : KT H ks xs) (h : ∀ p ∈ ks, isIntV p.2) : ∀ x ∈ xs, ∃ i t, x.2.2 = Value.int i t := by
  intro x hx
  obtain ⟨j, hj⟩ := List.mem_iff_getElem?.mp hx
  obtain ⟨p, hp, e⟩ := pair_at r hj
  obtain ⟨i, ei⟩ := h p (List.mem_of_getElem? hp)
  have e2 := e.2.2
  rw [ei] at e2
  obtain ⟨t, et⟩ := e2
  exact ⟨i, t, et⟩
end DTx

/-! DTx: sorted of a dict whose keys are tuples of ints, fewer than 64. -/
namespace DTx
open PySem PySem.Spec PyProof.Rows L2 PySem.Calls PySem.W
section
variable {prog : Program} {w : World} {A : Around} {E : Value → Shared → Prop} {s : Shared} {T : String} {r d : Addr} {n : Nat} {P : Nat → Value → Prop} {OK : Heap → Prop}
end
/-- sorted(d): the addresses of the keys, by their ints -/
def rSortD : List V → Hp → VK → Prop := fun vs H Q => ∃ (a : Addr) (ks : List (List Int × V)) (m : Nat) (B : Int), vs = [V.ref a] ∧ Rd H a (.dT (ks.map fun p => (p.1.map Sum.inl, p.2))) ∧ ks.length < 64 ∧ 1 ≤ m ∧ (∀ p ∈ ks, p.1.length = m ∧ TS.Bd B p.1) ∧
  ∀ (L : List (Addr × List Int)) (p : Addr), (L.map (·.2)).Perm (ks.map (·.1)) → L.Pairwise (fun q r => TS.code B q.2 ≤ TS.code B r.2) → (∀ q ∈ L, H q.1 = some (.tup (q.2.map V.int))) → H p = none → Q (.ref p) (upd H p (.lst (L.map fun q => V.ref q.1)))
end DTx

/-! DTx: {k: v} with a tuple as its one key. -/
namespace DTx
open PySem PySem.Spec PyProof.Rows L2 PySem.Calls
def tOne (tk tv : TE) : TE := fun σ H Q => ∀ p, H p = none → tk σ (upd H p (.dT [])) fun y H1 => tv σ H1 fun z H2 => H2 p = some (.dT []) ∧ ∃ k c, y = .ref c ∧ H2 c = some (.tup (k.map kV)) ∧ Q (.ref p) (upd H2 p (.dT [(k, z)]))
end DTx

/-! Bf: breadth first over sums: what is reached by n steps, with and without a limit. -/
namespace Bf
/-- x is reached from a by n steps out of S -/
inductive Rch (S : List Int) (a : Int) : Nat → Int → Prop
  | zero : Rch S a 0 a
  | succ {n : Nat} {x s : Int} : Rch S a n x → s ∈ S → Rch S a (n + 1) (x + s)
/-- the same, no number behind a beyond the limit -/
inductive RchB (S : List Int) (L : Int) (a : Int) : Nat → Int → Prop
  | zero : RchB S L a 0 a
  | succ {n : Nat} {x s : Int} : RchB S L a n x → s ∈ S → -L ≤ x + s → x + s ≤ L → RchB S L a (n + 1) (x + s)
/-- x is reached by i steps and by no fewer -/
def Dst (S : List Int) (L a : Int) (i : Nat) (x : Int) : Prop := RchB S L a i x ∧ ∀ j, j < i → ¬ RchB S L a j x
section
variable {S S' : List Int} {L L' a : Int} {i j n : Nat} {x y : Int}
theorem RchB.un (h : RchB S L a n x) : Rch S a n x := by
  induction h with
  | zero => exact .zero
  | succ _ hs _ _ ih => exact .succ ih hs
theorem RchB.lim (h : RchB S L a n x) (ha : -L ≤ a ∧ a ≤ L) : -L ≤ x ∧ x ≤ L := by
  cases h with
  | zero => exact ha
  | succ _ _ h1 h2 => exact ⟨h1, h2⟩
theorem Rch.sub (h : Rch S a n x) (hs : ∀ s ∈ S, s ∈ S') : Rch S' a n x := by
  induction h with
  | zero => exact .zero
  | succ _ h ih => exact .succ ih (hs _ h)
theorem RchB.sub (h : RchB S L a n x) (hs : ∀ s ∈ S, s ∈ S') : RchB S' L a n x := by
  induction h with
  | zero => exact .zero
  | succ _ h h1 h2 ih => exact .succ ih (hs _ h) h1 h2
/-- steps of 0 may be left out -/
theorem Rch.drop (h : Rch S a n x) (hs : ∀ s ∈ S, s ≠ 0 → s ∈ S') : ∃ m, m ≤ n ∧ Rch S' a m x := by
  induction h with
  | zero => exact ⟨0, Nat.le_refl _, .zero⟩
  | @succ n x s _ h ih =>
    obtain ⟨m, hm, r⟩ := ih
    by_cases e : s = 0
    · exact ⟨m, by omega, by rw [e, Int.add_zero]; exact r⟩
    · exact ⟨m + 1, by omega, .succ r (hs s h e)⟩
theorem Rch.list (h : Rch S a n x) : ∃ l : List Int, l.length = n ∧ (∀ s ∈ l, s ∈ S) ∧ a + l.sum = x := by
  induction h with
  | zero => exact ⟨[], rfl, (fun _ h => nomatch h), by simp⟩
  | @succ n x s _ hs ih =>
    obtain ⟨l, h1, h2, h3⟩ := ih
    refine ⟨s :: l, by simp [h1], fun t ht => ?_, by rw [List.sum_cons]; omega⟩
    rcases List.mem_cons.mp ht with e | ht
    · rw [e]; exact hs
    · exact h2 t ht
theorem Rch.front {s : Int} (h : Rch S (a + s) n x) (hs : s ∈ S) : Rch S a (n + 1) x := by
  induction h with
  | zero => exact .succ .zero hs
  | succ _ h ih => exact .succ ih h
theorem RchB.front {s : Int} (h : RchB S L (a + s) n x) (hs : s ∈ S) (h1 : -L ≤ a + s) (h2 : a + s ≤ L) : RchB S L a (n + 1) x := by
  induction h with
  | zero => exact .succ .zero hs h1 h2
  | succ _ h h3 h4 ih => exact .succ ih h h3 h4
theorem sum_erase {s : Int} : ∀ {l : List Int}, s ∈ l → (l.erase s).sum + s = l.sum
  | x :: l, h => by
    by_cases e : x = s
    · subst e
      rw [List.erase_cons_head, List.sum_cons]
      omega
    · rcases List.mem_cons.mp h with h | h
      · exact absurd h.symm e
      · rw [List.erase_cons_tail (by simpa using e), List.sum_cons, List.sum_cons]
        have := sum_erase h
        omega
theorem neg_of_sum : ∀ {l : List Int}, l.sum < 0 → ∃ s ∈ l, s < 0
  | [], h => by simp at h
  | x :: l, h => by
    by_cases e : x < 0
    · exact ⟨x, List.mem_cons_self, e⟩
    · rw [List.sum_cons] at h
      obtain ⟨s, hs, h0⟩ := neg_of_sum (l := l) (by omega)
      exact ⟨s, List.mem_cons_of_mem _ hs, h0⟩
theorem pos_of_sum : ∀ {l : List Int}, 0 < l.sum → ∃ s ∈ l, 0 < s
  | [], h => by simp at h
  | x :: l, h => by
    by_cases e : 0 < x
    · exact ⟨x, List.mem_cons_self, e⟩
    · rw [List.sum_cons] at h
      obtain ⟨s, hs, h0⟩ := pos_of_sum (l := l) (by omega)
      exact ⟨s, List.mem_cons_of_mem _ hs, h0⟩
/-- steps with the sum -a can be taken in an order that stays within the limit -/
theorem order (hS : ∀ s ∈ S, -L ≤ s ∧ s ≤ L) : ∀ (n : Nat) (l : List Int) (a : Int), l.length = n → (∀ s ∈ l, s ∈ S) → a + l.sum = 0 → -L ≤ a → a ≤ L → ∃ m, m ≤ n ∧ RchB S L a m 0
  | 0, l, a, hl, hm, h0, h1, h2 => by
    have : l = [] := List.length_eq_zero_iff.mp hl
    subst this
    have : a = 0 := by simpa using h0
    subst this
    exact ⟨0, Nat.le_refl _, .zero⟩
  | n + 1, l, a, hl, hm, h0, h1, h2 => by
    have go : ∀ s ∈ l, -L ≤ a + s → a + s ≤ L → ∃ m, m ≤ n + 1 ∧ RchB S L a m 0 := fun s hs g1 g2 => by
      have e := sum_erase hs
      obtain ⟨m, hmn, r⟩ := order hS n (l.erase s) (a + s) (by rw [List.length_erase_of_mem hs, hl]; rfl) (fun t ht => hm t (List.mem_of_mem_erase ht)) (by omega) g1 g2
      exact ⟨m + 1, by omega, r.front (hm s hs) g1 g2⟩
    by_cases c0 : a = 0
    · subst c0
      exact ⟨0, Nat.zero_le _, .zero⟩
    by_cases c : 0 < a
    · obtain ⟨s, hs, hn⟩ := neg_of_sum (l := l) (by omega)
      have := hS s (hm s hs)
      exact go s hs (by omega) (by omega)
    · obtain ⟨s, hs, hn⟩ := pos_of_sum (l := l) (by omega)
      have := hS s (hm s hs)
      exact go s hs (by omega) (by omega)
theorem Rch.within (h : Rch S a n 0) (hS : ∀ s ∈ S, -L ≤ s ∧ s ≤ L) (ha : -L ≤ a ∧ a ≤ L) : ∃ m, m ≤ n ∧ RchB S L a m 0 := by
  obtain ⟨l, h1, h2, h3⟩ := h.list
  exact order hS n l a h1 h2 h3 ha.1 ha.2
theorem Dst.one (h : Dst S L a i x) (h' : Dst S L a j x) : i = j := by
  rcases Nat.lt_trichotomy i j with c | c | c
  · exact absurd h.1 (h'.2 i c)
  · exact c
  · exact absurd h'.1 (h.2 j c)
theorem RchB.dst : ∀ {n : Nat} {x : Int}, RchB S L a n x → ∃ j, j ≤ n ∧ Dst S L a j x := by
  intro n
  induction n using Nat.strongRecOn with
  | _ n ih =>
    intro x h
    rcases Classical.em (∃ j, j < n ∧ RchB S L a j x) with ⟨j, hj, r⟩ | c
    · obtain ⟨k, hk, d⟩ := ih j hj r
      exact ⟨k, by omega, d⟩
    · exact ⟨n, Nat.le_refl _, h, fun j hj r => c ⟨j, hj, r⟩⟩
/-- what is known behind i turns: C what came, R the ring -/
structure Lev (S : List Int) (L a : Int) (i : Nat) (C R : List Int) : Prop where
  came : ∀ x, x ∈ C ↔ ∃ j, j ≤ i ∧ RchB S L a j x
  ring : ∀ x, x ∈ R ↔ Dst S L a i x
  nd : C.Nodup
theorem Lev.start : Lev S L a 0 [a] [a] := by
  refine ⟨fun x => ?_, fun x => ?_, by simp⟩
  · rw [List.mem_singleton]
    constructor
    · rintro rfl
      exact ⟨0, Nat.le_refl _, .zero⟩
    · rintro ⟨j, hj, h⟩
      have : j = 0 := by omega
      subst this
      cases h
      rfl
  · rw [List.mem_singleton]
    constructor
    · rintro rfl
      exact ⟨.zero, fun j hj => absurd hj (Nat.not_lt_zero _)⟩
    · rintro ⟨h, _⟩
      cases h
      rfl
/-- what is found in a turn -/
structure Found (S : List Int) (L : Int) (C R F : List Int) : Prop where
  mem : ∀ x, x ∈ F ↔ (x ∉ C ∧ -L ≤ x ∧ x ≤ L ∧ ∃ n ∈ R, ∃ s ∈ S, x = n + s)
  nd : F.Nodup
theorem Lev.next {C R F : List Int} (h : Lev S L a i C R) (f : Found S L C R F) : Lev S L a (i + 1) (C ++ F) F := by
  have key : ∀ x, x ∈ F ↔ Dst S L a (i + 1) x := fun x => by
    rw [f.mem]
    constructor
    · rintro ⟨hc, h1, h2, n, hn, s, hs, rfl⟩
      refine ⟨.succ ((h.ring n).mp hn).1 hs h1 h2, fun j hj r => hc ((h.came _).mpr ⟨j, by omega, r⟩)⟩
    · rintro ⟨r, hmin⟩
      cases r with
      | @succ _ n s r hs h1 h2 =>
        refine ⟨fun hc => ?_, h1, h2, n, (h.ring n).mpr ⟨r, fun j hj r' => ?_⟩, s, hs, rfl⟩
        · obtain ⟨j, hj, r'⟩ := (h.came _).mp hc
          exact hmin j (by omega) r'
        · exact hmin (j + 1) (by omega) (.succ r' hs h1 h2)
  refine ⟨fun x => ?_, key, ?_⟩
  · rw [List.mem_append]
    constructor
    · rintro (hx | hx)
      · obtain ⟨j, hj, r⟩ := (h.came x).mp hx
        exact ⟨j, by omega, r⟩
      · exact ⟨i + 1, Nat.le_refl _, ((key x).mp hx).1⟩
    · rintro ⟨j, hj, r⟩
      obtain ⟨k, hk, d⟩ := r.dst
      by_cases e : k = i + 1
      · exact .inr ((key x).mpr (e ▸ d))
      · exact .inl ((h.came x).mpr ⟨k, by omega, d.1⟩)
  · rw [List.nodup_append]
    refine ⟨h.nd, f.nd, fun x hx y hy e => ?_⟩
    exact ((f.mem y).mp hy).1 (e ▸ hx)
/-- the ring is empty: everything came -/
theorem Lev.all {C : List Int} (h : Lev S L a i C []) : ∀ n x, RchB S L a n x → x ∈ C := by
  intro n x r
  induction r with
  | zero => exact (h.came a).mpr ⟨0, Nat.zero_le _, .zero⟩
  | @succ n x s _ hs h1 h2 ih =>
    obtain ⟨j, hj, r⟩ := (h.came x).mp ih
    obtain ⟨k, hk, d⟩ := r.dst
    have : k ≠ i := fun e => by
      have := (h.ring x).mpr (e ▸ d)
      cases this
    exact (h.came _).mpr ⟨k + 1, by omega, .succ d.1 hs h1 h2⟩
theorem Lev.lim {C R : List Int} (h : Lev S L a i C R) (ha : -L ≤ a ∧ a ≤ L) {x : Int} (hx : x ∈ C) : -L ≤ x ∧ x ≤ L := by
  obtain ⟨j, _, r⟩ := (h.came x).mp hx
  exact r.lim ha
theorem Lev.sub {C R : List Int} (h : Lev S L a i C R) : ∀ x ∈ R, x ∈ C := fun x hx => (h.came x).mpr ⟨i, Nat.le_refl _, ((h.ring x).mp hx).1⟩
/-- a list of different numbers within the limit is no longer than the limit allows -/
theorem few {C : List Int} (nd : C.Nodup) (h : ∀ x ∈ C, -L ≤ x ∧ x ≤ L) (hL : 0 ≤ L) : (C.length : Int) ≤ 2 * L + 1 := by
  have key : ∀ (D : List Int) (k : Nat), D.Nodup → (∀ x ∈ D, 0 ≤ x ∧ x < (k : Int)) → D.length ≤ k := by
    intro D k
    induction k generalizing D with
    | zero =>
      intro _ hb
      cases D with
      | nil => exact Nat.le_refl _
      | cons x D =>
        have := hb x List.mem_cons_self
        omega
    | succ k ih =>
      intro hn hb
      have := ih (D.erase (k : Int)) (hn.erase _) fun x hx => by
        have h1 := hb x (List.mem_of_mem_erase hx)
        have h2 := (hn.mem_erase_iff.mp hx).1
        omega
      have l := List.length_erase (a := (k : Int)) (l := D)
      split at l <;> omega
  have := key (C.map fun x => x + L) (2 * L + 1).toNat (by
    refine List.pairwise_map.mpr (nd.imp ?_)
    intro x y hxy e
    omega) (fun x hx => by
      obtain ⟨y, hy, rfl⟩ := List.mem_map.mp hx
      have := h y hy
      omega)
  rw [List.length_map] at this
  omega
/-- the least number of steps that lead to 0 -/
def Least (S : List Int) (a : Int) : Option Nat → Prop
  | none => ∀ n, ¬ Rch S a n 0
  | some m => Rch S a m 0 ∧ ∀ n, Rch S a n 0 → m ≤ n
theorem Least.one {o o' : Option Nat} (h : Least S a o) (h' : Least S a o') : o = o' := by
  cases o with
  | none => cases o' with
    | none => rfl
    | some m => exact absurd h'.1 (h m)
  | some m => cases o' with
    | none => exact absurd h.1 (h' m)
    | some k =>
      have h1 := h.2 k h'.1
      have h2 := h'.2 m h.1
      rw [show m = k by omega]
/-- the same steps but 0 -/
theorem Least.steps {o : Option Nat} (h : Least S a o) (e : ∀ s, s ≠ 0 → (s ∈ S ↔ s ∈ S')) : Least S' a o := by
  have f : ∀ n, Rch S' a n 0 → ∃ m, m ≤ n ∧ Rch S a m 0 := fun n r => r.drop fun s hs hn => (e s hn).mpr hs
  have g : ∀ n, Rch S a n 0 → ∃ m, m ≤ n ∧ Rch S' a m 0 := fun n r => r.drop fun s hs hn => (e s hn).mp hs
  cases o with
  | none =>
    intro n r
    obtain ⟨m, _, r⟩ := f n r
    exact h m r
  | some k =>
    obtain ⟨m, hm, r⟩ := g k h.1
    obtain ⟨m', hm', r'⟩ := f m r
    have := h.2 m' r'
    have e : m = k := by omega
    subst e
    refine ⟨r, fun n r => ?_⟩
    obtain ⟨m2, hm2, r2⟩ := f n r
    have := h.2 m2 r2
    omega
end
end Bf

/-! Sm: dicts from int lists to ints, as lists of pairs; forms. -/
namespace Sm
open PySem L2
abbrev DI := List (List Int × Int)
abbrev ek (k : List Int) : List Key := k.map Sum.inl
def enc (ps : DI) : List (List Key × V) := ps.map fun p => (ek p.1, V.int p.2)
def getI (ps : DI) (k : List Int) : Option Int := (ps.find? fun p => decide (p.1 = k)).map (·.2)
def putI (ps : DI) (k : List Int) (v : Int) : DI := if (ps.any fun p => decide (p.1 = k)) = true then ps.map (fun p => if p.1 = k then (p.1, v) else p) else ps ++ [(k, v)]
theorem getI_none {ps : DI} {k : List Int} (h : k ∉ ps.map (·.1)) : getI ps k = none := by
  unfold getI
  rw [Option.map_eq_none_iff, List.find?_eq_none]
  intro p hp e
  exact h (List.mem_map.mpr ⟨p, hp, of_decide_eq_true e⟩)
theorem getI_mem {ps : DI} (nd : (ps.map (·.1)).Nodup) {p : List Int × Int} (hp : p ∈ ps) : getI ps p.1 = some p.2 := by
  induction ps with
  | nil => cases hp
  | cons q r ih =>
    have nd' : (q.1 :: r.map (·.1)).Nodup := nd
    obtain ⟨h1, h2⟩ := List.nodup_cons.mp nd'
    rcases List.mem_cons.mp hp with rfl | hp
    · simp [getI]
    · have : ¬ q.1 = p.1 := fun e => h1 (e ▸ List.mem_map.mpr ⟨p, hp, rfl⟩)
      have ih' := ih h2 hp
      simp only [getI, List.find?_cons] at ih' ⊢
      rw [decide_eq_false this]
      exact ih'
/-- the steps that are not 0 -/
def nz (ps : DI) : DI := ps.filter fun p => decide (p.2 ≠ 0)
theorem nz_sub {ps : DI} {p : List Int × Int} (h : p ∈ nz ps) : p ∈ ps := (List.mem_filter.mp h).1
theorem nd_nz {ps : DI} (nd : (ps.map (·.1)).Nodup) : ((nz ps).map (·.1)).Nodup := by
  unfold nz
  exact nd.sublist ((List.filter_sublist).map _)
/-- refs of tuples of ints -/
def TupsAt (H : Hp) : List V → List (List Int) → Prop := Paired fun v k => ∃ t, v = .ref t ∧ H t = some (.tup (k.map V.int))
theorem TupsAt.same {H H' : Hp} (e : ∀ b ys, H b = some (.tup ys) → H' b = some (.tup ys)) {xs : List V} {ks : List (List Int)} (h : TupsAt H xs ks) : TupsAt H' xs ks :=
  Paired.mapP h fun _ _ ⟨t, a, b⟩ => ⟨t, a, e _ _ b⟩
theorem TupsAt.get {H : Hp} {xs : List V} {ks : List (List Int)} (h : TupsAt H xs ks) {i : Nat} {x : V} (hx : xs[i]? = some x) : ∃ k t, ks[i]? = some k ∧ x = .ref t ∧ H t = some (.tup (k.map V.int)) := by
  induction h generalizing i with
  | nil => simp at hx
  | @cons a b as bs hab r ih =>
    cases i with
    | zero =>
      obtain ⟨t, e1, e2⟩ := hab
      have e : a = x := Option.some.inj hx
      exact ⟨b, t, rfl, by rw [← e, e1], e2⟩
    | succ i => exact ih hx
theorem TupsAt.app {H : Hp} {xs ys : List V} {ks ls : List (List Int)} (h : TupsAt H xs ks) (h' : TupsAt H ys ls) : TupsAt H (xs ++ ys) (ks ++ ls) := by
  induction h with
  | nil => exact h'
  | cons hab r ih => exact .cons hab ih
theorem TupsAt.erase {H : Hp} {xs : List V} {ks : List (List Int)} (h : TupsAt H xs ks) (j : Nat) : TupsAt H (xs.eraseIdx j) (ks.eraseIdx j) := by
  induction h generalizing j with
  | nil => exact .nil
  | cons hab r ih =>
    cases j with
    | zero => exact r
    | succ j => exact .cons hab (ih j)
theorem TupsAt.len {H : Hp} {xs : List V} {ks : List (List Int)} (h : TupsAt H xs ks) : xs.length = ks.length := Paired.length h
theorem perm_erase {α : Type} {l : List α} {j : Nat} {x : α} (h : l[j]? = some x) : (x :: l.eraseIdx j).Perm l := by
  induction l generalizing j with
  | nil => simp at h
  | cons a r ih =>
    cases j with
    | zero =>
      have e : a = x := Option.some.inj h
      rw [e]
      exact List.Perm.refl _
    | succ j =>
      have := ih (j := j) h
      show (x :: a :: r.eraseIdx j).Perm (a :: r)
      exact (List.Perm.swap _ _ _).trans (this.cons a)
/-- a sort: three ints from 0 to 2 -/
def Sort3 (k : List Int) : Prop := k.length = 3 ∧ TS.Bd 3 k
end Sm

/-! Tx: texts with holes, plainly: lists of code points, words, counts, labels, tokens, parts. -/
namespace Tx
open PySem PySem.Builtin PySem.Builtin.Str L2 SX
/-! ### single signs, slices, find -/
theorem str_eqS {a b : List Nat} : decide (V.str (S a) = V.str (S b)) = decide (a = b) := by
  by_cases e : a = b
  · subst e; simp
  · rw [decide_eq_false e, decide_eq_false (fun h => e (S_inj (V.str.inj h)))]
theorem one_lt (c d : Nat) : ([c] < [d]) = (c < d) := by
  apply propext
  constructor
  · intro h
    cases h with
    | rel h => exact h
    | cons h => cases h
  · intro h
    exact List.Lex.rel h
theorem slice_mid (p q r : List Nat) {i j : Int} (hi : i = (p.length : Int)) (hj : j = ((p.length + q.length : Nat) : Int)) : Txt.slice (S (p ++ (q ++ r))) (some i) (some j) = S q := by
  have hl : (S (p ++ (q ++ r))).length = p.length + (q.length + r.length) := by rw [S_len, List.length_append, List.length_append]
  have e := beq_iff_eq.mp (PyProof.Rows.slice_closesL (x := S (p ++ (q ++ r))) (i := i) (j := j) (by omega) (by omega) (by omega))
  refine e.trans (TL.ext_tl ?_)
  show ((p ++ (q ++ r)).drop i.toNat).take (j - i).toNat = q
  rw [show i.toNat = p.length by omega, List.drop_left, show (j - i).toNat = q.length by omega, List.take_left]
theorem getD_S (l : List Nat) (i : Nat) : (S l).cps.getD i 0 = l.getD i 0 := by
  show (l.toArray).getD i 0 = l.getD i 0
  rw [List.getD_eq_getElem?_getD]
  unfold Array.getD
  split
  · rename_i h
    have h : i < l.length := by simpa using h
    rw [List.getElem?_eq_getElem h]
    rfl
  · rename_i h
    have h : ¬ i < l.length := by simpa using h
    rw [List.getElem?_eq_none (by omega)]
    rfl
/-- where the next c stands -/
theorem find_mid (p q r : List Nat) (c : Nat) {i : Int} (hi : i = (p.length : Int)) (hq : c ∉ q) : Txt.find3 (S (p ++ (q ++ c :: r))) (S [c]) i = ((p.length + q.length : Nat) : Int) := by
  have hl : (S (p ++ (q ++ c :: r))).length = p.length + (q.length + (r.length + 1)) := by rw [S_len, List.length_append, List.length_append, List.length_cons]
  have hf : fromIndex (S (p ++ (q ++ c :: r))).length i = p.length := by
    subst hi
    show (max 0 (if ((p.length : Nat) : Int) < 0 then ((p.length : Nat) : Int) + _ else ((p.length : Nat) : Int))).toNat = p.length
    rw [if_neg (by omega)]
    omega
  have at_ : (S (p ++ (q ++ c :: r))).cps.getD (p.length + q.length) 0 = c := by
    rw [getD_S, ← List.append_assoc, List.getD_eq_getElem?_getD, List.getElem?_append_right (by rw [List.length_append]; omega), List.length_append, Nat.sub_self]
    rfl
  have ne_ : ∀ v, p.length ≤ v → v < p.length + q.length → (S (p ++ (q ++ c :: r))).cps.getD v 0 ≠ c := fun v h1 h2 => by
    rw [getD_S, List.getD_eq_getElem?_getD, List.getElem?_append_right h1, List.getElem?_append_left (by omega)]
    rw [List.getElem?_eq_getElem (by omega)]
    intro e
    exact hq (by rw [← show q[v - p.length]'(by omega) = c from e]; exact List.getElem_mem _)
  rcases StrLaws.find3_spec (S (p ++ (q ++ c :: r))) c i with ⟨_, hn⟩ | ⟨k, hk, h1, h2, h3, h4⟩
  · rw [hf, hl] at hn
    exact absurd at_ (hn _ (by omega) (by omega))
  · rw [hf] at h1 h4
    have : k = p.length + q.length := by
      rcases Nat.lt_trichotomy k (p.length + q.length) with h | h | h
      · exact absurd h3 (ne_ k h1 h)
      · exact h
      · exact absurd at_ (h4 _ (by omega) h)
    rw [← this]
    exact hk
/-! ### words, counts, labels -/
def low (c : Nat) : Bool := decide (97 ≤ c) && decide (c ≤ 122)
def dig (c : Nat) : Bool := decide (48 ≤ c) && decide (c ≤ 57)
def wordB (l : List Nat) : Bool := decide (1 ≤ l.length) && decide (l.length ≤ 8) && l.all low
def countB (l : List Nat) : Bool := decide (1 ≤ l.length) && decide (l.length ≤ 6) && !(decide (l.head? = some 48) && decide (l ≠ [48])) && l.all dig
def stem (l : List Nat) : List Nat := (l.reverse.dropWhile dig).reverse
def labelB (l : List Nat) : Bool := wordB (stem l) && (decide (stem l = l) || countB (l.drop (stem l).length))
def litB (c : Nat) : Bool := decide (32 ≤ c) && decide (c ≤ 126) && decide (c ≠ 37) && decide (c ≠ 123) && decide (c ≠ 125)
def digits10 : List Nat := [48, 49, 50, 51, 52, 53, 54, 55, 56, 57]
theorem digits10_S : ("0123456789" : Str) = S digits10 := by decide +kernel
theorem mem_digits10 (c : Nat) : decide (c ∈ digits10) = dig c := by
  unfold digits10 dig
  rw [← Bool.decide_and]
  refine decide_eq_decide.mpr ?_
  simp only [List.mem_cons, List.not_mem_nil, or_false]
  omega
theorem contains_digits (c : Nat) : (S digits10).cps.contains c = dig c := by
  rw [← mem_digits10]
  show digits10.toArray.contains c = _
  rw [List.contains_toArray, List.contains_eq_mem]
theorem stem_app (l : List Nat) : ∃ d, l = stem l ++ d ∧ d.all dig = true := by
  refine ⟨(l.reverse.takeWhile dig).reverse, ?_, ?_⟩
  · unfold stem
    rw [← List.reverse_append, List.takeWhile_append_dropWhile, List.reverse_reverse]
  · rw [List.all_reverse, List.all_eq_true]
    exact fun x hx => List.all_eq_true.mp (List.all_takeWhile (p := dig) (l := l.reverse)) x hx
theorem rstrip_digits (l : List Nat) : Txt.rstripChars (S l) (S digits10) = S (stem l) := by
  have e0 : (fun c => (S digits10).cps.contains c) = dig := funext contains_digits
  have lo0 : stripLo (S digits10).cps.contains false (S l) = 0 := rfl
  have hlen : (S l).length = l.length := S_len l
  have tw : (l.reverse.takeWhile dig).length + (stem l).length = l.length := by
    unfold stem
    rw [List.length_reverse, ← List.length_append, List.takeWhile_append_dropWhile, List.length_reverse]
  have hi0 : stripHi (S digits10).cps.contains true (S l) 0 = (stem l).length := by
    show (S l).length - ((l.drop 0).reverse.takeWhile (S digits10).cps.contains).length = _
    rw [List.drop_zero, hlen, show (S digits10).cps.contains = dig from e0]
    omega
  unfold Txt.rstripChars Txt.stripBy stripSame
  rw [lo0, hi0]
  obtain ⟨d, hd, _⟩ := stem_app l
  split
  · rename_i h
    have h2 : (stem l).length = l.length := by
      rw [hlen] at h
      simpa using h
    have : d = [] := by
      have := congrArg List.length hd
      rw [List.length_append] at this
      exact List.eq_nil_of_length_eq_zero (by omega)
    rw [this, List.append_nil] at hd
    rw [← hd]
  · unfold stripped
    rw [lo0, hi0]
    refine TL.ext_tl ?_
    rw [TL.tl_strSub]
    show (l.drop 0).take ((stem l).length - 0) = stem l
    rw [List.drop_zero, Nat.sub_zero]
    have : (stem l ++ d).take (stem l).length = stem l := List.take_left
    rw [← hd] at this
    exact this
theorem stem_of {w d : List Nat} (hw : ∀ c, w.getLast? = some c → dig c = false) (hd : d.all dig = true) : stem (w ++ d) = w := by
  unfold stem
  rw [List.reverse_append, List.dropWhile_append_of_pos (fun x hx => List.all_eq_true.mp hd x (List.mem_reverse.mp hx))]
  have : w.reverse.dropWhile dig = w.reverse := by
    cases h : w.reverse with
    | nil => rfl
    | cons c r =>
      have hc : w.getLast? = some c := by
        rw [← List.head?_reverse, h]
        rfl
      rw [List.dropWhile_cons, if_neg (by rw [hw c hc]; exact Bool.false_ne_true)]
  rw [this, List.reverse_reverse]
theorem low_nodig {c : Nat} (h : low c = true) : dig c = false := by
  unfold low at h
  unfold dig
  rw [Bool.and_eq_true, decide_eq_true_eq, decide_eq_true_eq] at h
  rw [← Bool.decide_and]
  exact decide_eq_false (by omega)
/-- a word with a number, or with none, is a label -/
theorem label_of {w d : List Nat} (hw : wordB w = true) (hd : d = [] ∨ countB d = true) : labelB (w ++ d) = true := by
  have hl : w.all low = true := by
    unfold wordB at hw
    rw [Bool.and_eq_true] at hw
    exact hw.2
  have hdd : d.all dig = true := by
    rcases hd with rfl | h
    · rfl
    · unfold countB at h
      rw [Bool.and_eq_true] at h
      exact h.2
  have e := stem_of (w := w) (d := d) (fun c hc => low_nodig (List.all_eq_true.mp hl c (List.mem_of_getLast? hc))) hdd
  unfold labelB
  rw [e, hw, Bool.true_and, List.drop_left]
  rcases hd with rfl | h
  · rw [List.append_nil, decide_eq_true rfl, Bool.true_or]
  · rw [h, Bool.or_true]
theorem count_num {n : Nat} (h : n < 1000000) : countB (TL.numL n) = true := by
  have hl := TL.numL_len (n := n) (k := 6) (by decide) h
  have hne := TL.numL_ne n
  have h1 : 1 ≤ (TL.numL n).length := List.length_pos_iff.mpr hne
  have hd : (TL.numL n).all dig = true := List.all_eq_true.mpr fun c hc => by
    have := TL.numL_digits n c hc
    unfold dig
    rw [← Bool.decide_and]
    exact decide_eq_true this
  have h0 : (decide ((TL.numL n).head? = some 48) && decide (TL.numL n ≠ [48])) = false := by
    by_cases z : n = 0
    · subst z
      decide +kernel
    · have : (TL.numL n).head? ≠ some 48 := by
        clear hl hne h1 hd h
        induction n using Nat.strongRecOn with
        | _ n ih =>
          by_cases h : n < 10
          · rw [TL.numL_lt h]
            intro e
            have := Option.some.inj e
            omega
          · rw [TL.numL_step (by omega), List.head?_append]
            have hh := ih (n / 10) (by omega) (by omega)
            cases e : (TL.numL (n / 10)).head? with
            | none =>
              rw [List.head?_eq_none_iff] at e
              exact absurd e (TL.numL_ne _)
            | some c =>
              rw [e] at hh
              exact hh
      rw [decide_eq_false this, Bool.false_and]
  unfold countB
  rw [decide_eq_true h1, decide_eq_true hl, h0, hd]
  rfl
/-! ### tokens and parts -/
inductive Tk | ch (c : Nat) | ho (k : List Nat)
  deriving DecidableEq
def flat : List Tk → List Nat
  | [] => []
  | .ch c :: r => c :: flat r
  | .ho k :: r => 123 :: (k ++ 125 :: flat r)
theorem flat_app : ∀ a b : List Tk, flat (a ++ b) = flat a ++ flat b
  | [], _ => rfl
  | .ch c :: r, b => by show c :: flat (r ++ b) = c :: (flat r ++ flat b); rw [flat_app r b]
  | .ho k :: r, b => by show 123 :: (k ++ 125 :: flat (r ++ b)) = 123 :: (k ++ 125 :: flat r) ++ flat b; rw [flat_app r b]; simp
/-- a part: a literal, or something else that is told by its tag -/
inductive Pc | say (l : List Nat) | oth (tag : Str) (xs : List V)
def Pc.vs : Pc → List V
  | .say l => [.str "say", .str (S l)]
  | .oth t xs => .str t :: xs
def Pc.ok : Pc → Prop
  | .say _ => True
  | .oth t xs => t ≠ "say" ∧ 1 ≤ xs.length ∧ xs.length ≤ 5
def hole (k : List Nat) : Pc := .oth "hole" [.str (S k)]
/-- the parts as they are read -/
def raw : List Nat → List Tk → List Pc
  | cur, [] => [.say cur]
  | cur, .ch c :: r => raw (cur ++ [c]) r
  | cur, .ho k :: r => .say cur :: hole k :: raw [] r
/-- one part more -/
def put (acc : List Pc) : Pc → List Pc
  | .oth t xs => acc ++ [.oth t xs]
  | .say l => if l = [] then acc else match acc.getLast? with
    | some (.say m) => acc.dropLast ++ [.say (m ++ l)]
    | _ => acc ++ [.say l]
def merge (ps : List Pc) : List Pc := ps.foldl put []
/-- parts in the heap -/
def PcsAt (H : Hp) : List V → List Pc → Prop := Paired fun v p => ∃ t, v = .ref t ∧ H t = some (.tup p.vs)
theorem PcsAt.same {H H' : Hp} (e : ∀ b ys, H b = some (.tup ys) → H' b = some (.tup ys)) {xs : List V} {ps : List Pc} (h : PcsAt H xs ps) : PcsAt H' xs ps :=
  Paired.mapP h fun _ _ ⟨t, a, b⟩ => ⟨t, a, e _ _ b⟩
theorem PcsAt.get {H : Hp} {xs : List V} {ps : List Pc} (h : PcsAt H xs ps) {i : Nat} {x : V} (hx : xs[i]? = some x) : ∃ p t, ps[i]? = some p ∧ x = .ref t ∧ H t = some (.tup p.vs) := by
  induction h generalizing i with
  | nil => simp at hx
  | @cons a b as bs hab r ih =>
    cases i with
    | zero =>
      obtain ⟨t, e1, e2⟩ := hab
      have e : a = x := Option.some.inj hx
      exact ⟨b, t, rfl, by rw [← e, e1], e2⟩
    | succ i => exact ih hx
theorem PcsAt.app {H : Hp} {xs ys : List V} {ps qs : List Pc} (h : PcsAt H xs ps) (h' : PcsAt H ys qs) : PcsAt H (xs ++ ys) (ps ++ qs) := by
  induction h with
  | nil => exact h'
  | cons hab r ih => exact .cons hab ih
theorem PcsAt.len {H : Hp} {xs : List V} {ps : List Pc} (h : PcsAt H xs ps) : xs.length = ps.length := Paired.length h
theorem PcsAt.one {H : Hp} {t : Addr} {p : Pc} (h : H t = some (.tup p.vs)) : PcsAt H [.ref t] [p] := .cons ⟨t, rfl, h⟩ .nil
theorem PcsAt.dropLast {H : Hp} {xs : List V} {ps : List Pc} (h : PcsAt H xs ps) : PcsAt H xs.dropLast ps.dropLast := by
  induction h with
  | nil => exact .nil
  | @cons a b as bs hab r ih =>
    cases r with
    | nil => exact .nil
    | cons h2 r2 => exact .cons hab ih
theorem merge_snoc (ps : List Pc) (p : Pc) : merge (ps ++ [p]) = put (merge ps) p := by
  unfold merge
  rw [List.foldl_append]
  rfl
/-! sizes -/
def szP : Pc → Nat | .say l => l.length | .oth _ _ => 0
def sz (ps : List Pc) : Nat := (ps.map szP).sum
theorem sz_app (a b : List Pc) : sz (a ++ b) = sz a + sz b := by
  unfold sz
  rw [List.map_append, List.sum_append]
theorem sz_one (p : Pc) : sz [p] = szP p := by
  unfold sz
  rw [List.map_cons, List.map_nil, List.sum_cons, List.sum_nil, Nat.add_zero]
theorem last_split {α : Type} {l : List α} {x : α} (h : l.getLast? = some x) : l = l.dropLast ++ [x] := by
  rcases List.eq_nil_or_concat l with rfl | ⟨r, y, rfl⟩
  · cases h
  · rw [List.concat_eq_append] at h ⊢
    rw [List.getLast?_append] at h
    have : y = x := Option.some.inj h
    rw [this, List.dropLast_append_of_ne_nil (by simp)]
    simp
theorem put_say_emp (acc : List Pc) : put acc (.say []) = acc := rfl
theorem put_say_say {acc : List Pc} {m l : List Nat} (hl : l ≠ []) (h : acc.getLast? = some (.say m)) : put acc (.say l) = acc.dropLast ++ [.say (m ++ l)] := by
  unfold put
  dsimp only
  rw [if_neg hl, h]
theorem put_say_new {acc : List Pc} {l : List Nat} (hl : l ≠ []) (h : ∀ m, acc.getLast? ≠ some (.say m)) : put acc (.say l) = acc ++ [.say l] := by
  unfold put
  dsimp only
  rw [if_neg hl]
  split
  · rename_i m e
    exact absurd e (h m)
  · rfl
theorem put_cases (acc : List Pc) (p : Pc) : (p = .say [] ∧ put acc p = acc) ∨ (∃ m l, l ≠ [] ∧ p = .say l ∧ acc.getLast? = some (.say m) ∧ put acc p = acc.dropLast ++ [.say (m ++ l)]) ∨ (p ≠ .say [] ∧ put acc p = acc ++ [p]) := by
  cases p with
  | oth t xs => exact .inr (.inr ⟨(fun z => nomatch z), rfl⟩)
  | say l =>
    by_cases hl : l = []
    · subst hl
      exact .inl ⟨rfl, rfl⟩
    · cases h : acc.getLast? with
      | none => exact .inr (.inr ⟨(fun z => hl (Pc.say.inj z)), put_say_new hl (by rw [h]; exact fun _ z => nomatch z)⟩)
      | some q =>
        cases q with
        | say m => exact .inr (.inl ⟨m, l, hl, rfl, rfl, put_say_say hl h⟩)
        | oth t xs => exact .inr (.inr ⟨(fun z => hl (Pc.say.inj z)), put_say_new hl (by rw [h]; exact fun _ z => nomatch z)⟩)
theorem sz_put (acc : List Pc) (p : Pc) : sz (put acc p) = sz acc + szP p := by
  rcases put_cases acc p with ⟨rfl, h⟩ | ⟨m, l, _, rfl, h1, h⟩ | ⟨_, h⟩
  · rw [h]
    rfl
  · rw [h, sz_app, sz_one]
    have e := congrArg sz (last_split h1)
    rw [sz_app, sz_one] at e
    rw [e]
    show _ + (m ++ l).length = _ + m.length + l.length
    rw [List.length_append]
    omega
  · rw [h, sz_app, sz_one]
theorem put_len (acc : List Pc) (p : Pc) : (put acc p).length ≤ acc.length + 1 := by
  rcases put_cases acc p with ⟨rfl, h⟩ | ⟨m, l, _, rfl, h1, h⟩ | ⟨_, h⟩
  · rw [h]
    omega
  · rw [h, List.length_append, List.length_dropLast]
    show acc.length - 1 + 1 ≤ _
    omega
  · rw [h, List.length_append]
    exact Nat.le_refl _
theorem merge_len (ps : List Pc) : (merge ps).length ≤ ps.length := by
  unfold merge
  have : ∀ (qs acc : List Pc), (qs.foldl put acc).length ≤ acc.length + qs.length := by
    intro qs
    induction qs with
    | nil => exact fun acc => Nat.le_refl _
    | cons q r ih =>
      intro acc
      have h1 := ih (put acc q)
      have h2 := put_len acc q
      rw [List.foldl_cons, List.length_cons]
      omega
  have := this ps []
  simpa using this
theorem sz_merge (ps : List Pc) : sz (merge ps) = sz ps := by
  unfold merge
  have : ∀ (qs acc : List Pc), sz (qs.foldl put acc) = sz acc + sz qs := by
    intro qs
    induction qs with
    | nil => exact fun acc => rfl
    | cons q r ih =>
      intro acc
      rw [List.foldl_cons, ih, sz_put, show q :: r = [q] ++ r from rfl, sz_app, sz_one]
      omega
  rw [this]
  show 0 + sz ps = sz ps
  omega
theorem sz_take (ps : List Pc) (i : Nat) : sz (ps.take i) ≤ sz ps := by
  have := congrArg sz (List.take_append_drop i ps)
  rw [sz_app] at this
  omega
theorem sz_get {ps : List Pc} {i : Nat} {p : Pc} (h : ps[i]? = some p) : sz (ps.take i) + szP p ≤ sz ps := by
  obtain ⟨hlt, he⟩ := List.getElem?_eq_some_iff.mp h
  have := sz_take ps (i + 1)
  rw [List.take_succ_eq_append_getElem hlt, he, sz_app, sz_one] at this
  exact this
theorem sz_last {ps : List Pc} {p : Pc} (h : ps.getLast? = some p) : szP p ≤ sz ps := by
  have e := congrArg sz (last_split h)
  rw [sz_app, sz_one] at e
  omega
theorem put_ok {acc : List Pc} {p : Pc} (ha : ∀ q ∈ acc, q.ok) (hp : p.ok) : ∀ q ∈ put acc p, q.ok := by
  rcases put_cases acc p with ⟨rfl, h⟩ | ⟨m, l, _, rfl, h1, h⟩ | ⟨_, h⟩
  · rw [h]
    exact ha
  · rw [h]
    intro q hq
    rcases List.mem_append.mp hq with hq | hq
    · exact ha q ((List.dropLast_sublist acc).subset hq)
    · rw [List.mem_singleton.mp hq]
      trivial
  · rw [h]
    intro q hq
    rcases List.mem_append.mp hq with hq | hq
    · exact ha q hq
    · rw [List.mem_singleton.mp hq]
      exact hp
theorem merge_ok {ps : List Pc} (h : ∀ q ∈ ps, q.ok) : ∀ q ∈ merge ps, q.ok := by
  unfold merge
  have : ∀ (qs acc : List Pc), (∀ q ∈ acc, q.ok) → (∀ q ∈ qs, q.ok) → ∀ q ∈ qs.foldl put acc, q.ok := by
    intro qs
    induction qs with
    | nil => exact fun acc h _ => h
    | cons q r ih => exact fun acc h1 h2 => ih _ (put_ok h1 (h2 q List.mem_cons_self)) fun x hx => h2 x (List.mem_cons_of_mem _ hx)
  exact this ps [] (fun _ z => nomatch z) h
theorem hole_ok (k : List Nat) : (hole k).ok := ⟨by decide +kernel, Nat.le_refl _, Nat.le_of_ble_eq_true rfl⟩
theorem raw_ok : ∀ (ts : List Tk) (cur : List Nat), ∀ q ∈ raw cur ts, q.ok
  | [], cur, q, h => by rw [List.mem_singleton.mp h]; trivial
  | .ch c :: r, cur, q, h => raw_ok r _ q h
  | .ho k :: r, cur, q, h => by
    rcases List.mem_cons.mp h with rfl | h
    · trivial
    · rcases List.mem_cons.mp h with rfl | h
      · exact hole_ok k
      · exact raw_ok r _ q h
theorem raw_len : ∀ (ts : List Tk) (cur : List Nat), (raw cur ts).length ≤ 2 * ts.length + 1
  | [], cur => Nat.le_refl _
  | .ch c :: r, cur => by
    have := raw_len r (cur ++ [c])
    show (raw (cur ++ [c]) r).length ≤ _
    rw [List.length_cons]
    omega
  | .ho k :: r, cur => by
    have := raw_len r []
    show (raw [] r).length + 1 + 1 ≤ _
    rw [List.length_cons]
    omega
theorem raw_sz : ∀ (ts : List Tk) (cur : List Nat), sz (raw cur ts) ≤ cur.length + (flat ts).length
  | [], cur => by
    show sz [.say cur] ≤ _
    rw [sz_one]
    exact Nat.le_add_right _ _
  | .ch c :: r, cur => by
    have := raw_sz r (cur ++ [c])
    rw [List.length_append] at this
    show sz (raw (cur ++ [c]) r) ≤ cur.length + ((flat r).length + 1)
    have e : [c].length = 1 := rfl
    omega
  | .ho k :: r, cur => by
    have := raw_sz r []
    show sz ([.say cur] ++ ([hole k] ++ raw [] r)) ≤ cur.length + (123 :: (k ++ 125 :: flat r)).length
    rw [sz_app, sz_app, sz_one, sz_one, List.length_cons, List.length_append, List.length_cons]
    show cur.length + (0 + sz (raw [] r)) ≤ _
    have e : ([] : List Nat).length = 0 := rfl
    omega
theorem flat_len : ∀ ts : List Tk, ts.length ≤ (flat ts).length
  | [] => Nat.le_refl _
  | .ch c :: r => by
    have := flat_len r
    show r.length + 1 ≤ (flat r).length + 1
    omega
  | .ho k :: r => by
    have := flat_len r
    show r.length + 1 ≤ (123 :: (k ++ 125 :: flat r)).length
    rw [List.length_cons, List.length_append, List.length_cons]
    omega
/-! the end of a list -/
theorem atI_last {α : Type} {xs : List α} {x : α} (h : xs.getLast? = some x) : atI xs (-1) = some x := by
  have e := last_split h
  have hl : 0 < xs.length := by
    cases xs with
    | nil => cases h
    | cons a r => simp
  have h2 : xs[xs.length - 1]? = some x := by rw [← List.getLast?_eq_getElem?]; exact h
  unfold atI
  have hix : ixN xs.length (-1) = some (xs.length - 1) := by
    unfold ixN
    rw [if_neg (by decide), if_pos (by omega)]
    congr 1
    omega
  rw [hix]
  exact h2
theorem ixN_last {n : Nat} (h : 0 < n) : ixN n (-1) = some (n - 1) := by
  unfold ixN
  rw [if_neg (by decide), if_pos (by omega)]
  congr 1
  omega
theorem atI_hd {α : Type} {x : α} {xs : List α} : atI (x :: xs) 0 = some x := atI_nat (j := 0) rfl
theorem atI_hd1 {α : Type} {x y : α} {xs : List α} : atI (x :: y :: xs) 1 = some y := atI_nat (j := 1) rfl
theorem set_last {α : Type} {xs : List α} {y : α} (h : xs ≠ []) : xs.set (xs.length - 1) y = xs.dropLast ++ [y] := by
  rcases List.eq_nil_or_concat xs with rfl | ⟨r, z, rfl⟩
  · exact absurd rfl h
  · rw [List.concat_eq_append, List.length_append, List.dropLast_append_of_ne_nil (by simp)]
    show (r ++ [z]).set (r.length + 1 - 1) y = _
    rw [Nat.add_sub_cancel, List.set_append_right _ _ (Nat.le_refl _), Nat.sub_self]
    simp
theorem PcsAt.last {H : Hp} {xs : List V} {ps : List Pc} (h : PcsAt H xs ps) {p : Pc} (hp : ps.getLast? = some p) : ∃ t, xs.getLast? = some (.ref t) ∧ H t = some (.tup p.vs) := by
  rw [List.getLast?_eq_getElem?] at hp
  have hl := h.len
  have hx : ps.length - 1 < xs.length := by
    have := (List.getElem?_eq_some_iff.mp hp).1
    omega
  obtain ⟨q, t, h1, h2, h3⟩ := h.get (List.getElem?_eq_getElem hx)
  rw [hp] at h1
  cases h1
  exact ⟨t, by rw [List.getLast?_eq_getElem?, hl, List.getElem?_eq_getElem hx, h2], h3⟩
end Tx

/-! Sl: comprehensions of ints over the keys of a dict with int-tuple keys. -/
namespace Sl
open PySem L2 Sm
end Sl

/-! Gt: what a dict of steps gives for each sort. -/
namespace Sm
open PySem L2
def gt (qs : DI) (k : List Int) : Int := (getI qs k).getD 0
theorem keys_putI {ps : DI} {k : List Int} {v : Int} : (putI ps k v).map (·.1) = if k ∈ ps.map (·.1) then ps.map (·.1) else ps.map (·.1) ++ [k] := by
  have e : (ps.any fun p => decide (p.1 = k)) = true ↔ k ∈ ps.map (·.1) := by
    rw [List.any_eq_true, List.mem_map]
    exact ⟨fun ⟨p, h, e⟩ => ⟨p, h, of_decide_eq_true e⟩, fun ⟨p, h, e⟩ => ⟨p, h, decide_eq_true e⟩⟩
  unfold putI
  by_cases h : k ∈ ps.map (·.1)
  · rw [if_pos (e.mpr h), if_pos h, List.map_map]
    refine List.map_congr_left fun p _ => ?_
    show (if p.1 = k then (p.1, v) else p).1 = p.1
    split <;> rfl
  · rw [if_neg (fun z => h (e.mp z)), if_neg h, List.map_append]
    rfl
theorem nd_putI {ps : DI} {k : List Int} {v : Int} (h : (ps.map (·.1)).Nodup) : ((putI ps k v).map (·.1)).Nodup := by
  rw [keys_putI]
  split
  · exact h
  · next n =>
    rw [List.nodup_append]
    exact ⟨h, by simp, fun a ha b hb e => n (by rw [List.mem_singleton.mp hb] at e; exact e ▸ ha)⟩
theorem gt_mem {ps : DI} (nd : (ps.map (·.1)).Nodup) {p : List Int × Int} (hp : p ∈ ps) : gt ps p.1 = p.2 := by
  unfold gt
  rw [getI_mem nd hp]
  rfl
theorem gt_none {ps : DI} {k : List Int} (h : k ∉ ps.map (·.1)) : gt ps k = 0 := by
  unfold gt
  rw [getI_none h]
  rfl
theorem nodup_len {α : Type} [BEq α] [LawfulBEq α] : ∀ (l D : List α), l.Nodup → (∀ x ∈ l, x ∈ D) → l.length ≤ D.length
  | [], _, _, _ => Nat.zero_le _
  | x :: l, D, hn, hs => by
    obtain ⟨h1, h2⟩ := List.nodup_cons.mp hn
    have hx : x ∈ D := hs x List.mem_cons_self
    have ih := nodup_len l (D.erase x) h2 fun y hy => by
      have hne : y ≠ x := fun e => h1 (e ▸ hy)
      exact (List.mem_erase_of_ne hne).2 (hs y (List.mem_cons_of_mem _ hy))
    have e := List.length_erase_of_mem hx
    have hp : 0 < D.length := List.length_pos_of_mem hx
    rw [List.length_cons]
    omega
def all27 : List (List Int) := (List.range 27).map fun (i : Nat) => [(i : Int) / 9, (i : Int) / 3 % 3, (i : Int) % 3]
theorem mem27 {k : List Int} (h : Sort3 k) : k ∈ all27 := by
  obtain ⟨hl, hb⟩ := h
  match k, hl with
  | [a, b, c], _ =>
    have ha := hb a (by simp)
    have hb' := hb b (by simp)
    have hc := hb c (by simp)
    refine List.mem_map.mpr ⟨(a * 9 + b * 3 + c).toNat, List.mem_range.mpr (by omega), ?_⟩
    have e : (((a * 9 + b * 3 + c).toNat : Nat) : Int) = a * 9 + b * 3 + c := by omega
    rw [e]
    have e1 : (a * 9 + b * 3 + c) / 9 = a := by omega
    have e2 : (a * 9 + b * 3 + c) / 3 % 3 = b := by omega
    have e3 : (a * 9 + b * 3 + c) % 3 = c := by omega
    rw [e1, e2, e3]
/-- steps as dicts have them: each sort once -/
structure Keys3 (ps : DI) : Prop where
  nd : (ps.map (·.1)).Nodup
  s3 : ∀ p ∈ ps, Sort3 p.1
theorem Keys3.sz {ps : DI} (h : Keys3 ps) : ps.length ≤ 27 := by
  have := nodup_len (ps.map (·.1)) all27 h.nd fun k hk => by
    obtain ⟨p, hp, rfl⟩ := List.mem_map.mp hk
    exact mem27 (h.s3 p hp)
  rw [List.length_map] at this
  exact this
theorem Keys3.nil : Keys3 [] := ⟨List.nodup_nil, fun _ h => nomatch h⟩
theorem Keys3.nz {ps : DI} (h : Keys3 ps) : Keys3 (nz ps) := ⟨nd_nz h.nd, fun p hp => h.s3 p (nz_sub hp)⟩
theorem Keys3.put {ps : DI} (h : Keys3 ps) {k : List Int} (hk : Sort3 k) (v : Int) : Keys3 (putI ps k v) := ⟨nd_putI h.nd, fun p hp => by
  have : p.1 ∈ (putI ps k v).map (·.1) := List.mem_map.mpr ⟨p, hp, rfl⟩
  rw [keys_putI] at this
  have h2 : p.1 ∈ ps.map (·.1) ∨ p.1 = k := by
    split at this
    · exact .inl this
    · rcases List.mem_append.mp this with h | h
      · exact .inl h
      · exact .inr (List.mem_singleton.mp h)
  rcases h2 with h2 | h2
  · obtain ⟨q, hq, e⟩ := List.mem_map.mp h2
    rw [← e]
    exact h.s3 q hq
  · rw [h2]
    exact hk⟩
/-- the steps of a form -/
structure Good (qs : DI) : Prop extends Keys3 qs where
  nz : ∀ p ∈ qs, p.2 ≠ 0
theorem Good.mem {qs : DI} (h : Good qs) (k : List Int) : k ∈ qs.map (·.1) ↔ gt qs k ≠ 0 := by
  constructor
  · intro hk
    obtain ⟨p, hp, rfl⟩ := List.mem_map.mp hk
    rw [gt_mem h.nd hp]
    exact h.nz p hp
  · intro hk
    rcases Classical.em (k ∈ qs.map (·.1)) with c | c
    · exact c
    · exact absurd (gt_none c) hk
/-- the sum of a form at counts -/
def atC (qs cs : DI) : Int := (cs.map fun y => gt qs y.1 * y.2).sum
end Sm

/-! Tc: the cells of a query: literals and holes with a key. -/
namespace Tc
open PySem L2 SX Tx
abbrev Cl := Sum (List Nat) Key
instance : LawfulBEq (Sum Int Str) where
  eq_of_beq {a b} h := by
    cases a with
    | inl i =>
      cases b with
      | inl j => exact congrArg Sum.inl (eq_of_beq (show (i == j) = true from h))
      | inr t => cases h
    | inr x =>
      cases b with
      | inl j => cases h
      | inr y => exact congrArg Sum.inr (eq_of_beq (show (x == y) = true from h))
  rfl {a} := by
    cases a with
    | inl i => exact beq_self_eq_true i
    | inr x => exact beq_self_eq_true x
def pc : Cl → Pc
  | .inl l => .say l
  | .inr k => .oth "hole" [kV k]
def putC (acc : List Cl) : Cl → List Cl
  | .inr k => acc ++ [.inr k]
  | .inl l => if l = [] then acc else match acc.getLast? with
    | some (.inl m) => acc.dropLast ++ [.inl (m ++ l)]
    | _ => acc ++ [.inl l]
def mergeC (cs : List Cl) : List Cl := cs.foldl putC []
theorem put_map (acc : List Cl) (c : Cl) : put (acc.map pc) (pc c) = (putC acc c).map pc := by
  cases c with
  | inr k =>
    show acc.map pc ++ [pc (.inr k)] = (acc ++ [(Sum.inr k : Cl)]).map pc
    rw [List.map_append]
    rfl
  | inl l =>
    unfold putC
    by_cases hl : l = []
    · subst hl
      rfl
    · dsimp only
      rw [if_neg hl]
      cases h : acc.getLast? with
      | none =>
        have : acc = [] := List.getLast?_eq_none_iff.mp h
        subst this
        exact put_say_new hl (fun _ z => nomatch z)
      | some x =>
        have hm : (acc.map pc).getLast? = some (pc x) := by rw [List.getLast?_map, h]; rfl
        cases x with
        | inl m =>
          refine (put_say_say hl hm).trans ?_
          rw [List.map_append, List.map_dropLast]
          rfl
        | inr k =>
          refine (put_say_new hl (fun m z => ?_)).trans ?_
          · rw [hm] at z
            cases z
          · rw [List.map_append]
            rfl
theorem merge_map (cs : List Cl) : merge (cs.map pc) = (mergeC cs).map pc := by
  unfold merge mergeC
  have : ∀ (cs acc : List Cl), (cs.map pc).foldl put (acc.map pc) = (cs.foldl putC acc).map pc := by
    intro cs
    induction cs with
    | nil => exact fun _ => rfl
    | cons c r ih =>
      intro acc
      rw [List.map_cons, List.foldl_cons, List.foldl_cons, put_map, ih]
  exact this cs []
def rawC : List Nat → List Tk → List Cl
  | cur, [] => [.inl cur]
  | cur, .ch c :: r => rawC (cur ++ [c]) r
  | cur, .ho k :: r => .inl cur :: .inr (.inr (S k)) :: rawC [] r
theorem raw_map : ∀ (ts : List Tk) (cur : List Nat), raw cur ts = (rawC cur ts).map pc
  | [], cur => rfl
  | .ch c :: r, cur => raw_map r _
  | .ho k :: r, cur => by
    show Pc.say cur :: hole k :: raw [] r = pc (.inl cur) :: pc (.inr (.inr (S k))) :: (rawC [] r).map pc
    rw [raw_map r []]
    rfl
/-- the cells that are read -/
def read (ts : List Tk) : List Cl := mergeC (rawC [] ts)
theorem read_map (ts : List Tk) : merge (raw [] ts) = (read ts).map pc := by rw [raw_map, merge_map]; rfl
/-- the keys of the holes -/
def keys (cs : List Cl) : List Key := cs.filterMap fun | .inl _ => none | .inr k => some k
theorem keys_app (a b : List Cl) : keys (a ++ b) = keys a ++ keys b := List.filterMap_append
theorem keys_putC (acc : List Cl) (c : Cl) : keys (putC acc c) = keys acc ++ keys [c] := by
  cases c with
  | inr k => exact keys_app _ _
  | inl l =>
    unfold putC
    dsimp only
    by_cases hl : l = []
    · rw [if_pos hl]
      exact (List.append_nil _).symm
    · rw [if_neg hl]
      cases h : acc.getLast? with
      | none => exact keys_app _ _
      | some x =>
        cases x with
        | inr k => exact keys_app _ _
        | inl m =>
          have e := congrArg keys (last_split h)
          rw [keys_app] at e
          show keys (acc.dropLast ++ [.inl (m ++ l)]) = _
          rw [keys_app, e, List.append_assoc]
          rfl
theorem keys_merge (cs : List Cl) : keys (mergeC cs) = keys cs := by
  unfold mergeC
  have : ∀ (cs acc : List Cl), keys (cs.foldl putC acc) = keys acc ++ keys cs := by
    intro cs
    induction cs with
    | nil => exact fun _ => (List.append_nil _).symm
    | cons c r ih =>
      intro acc
      rw [List.foldl_cons, ih, keys_putC, show c :: r = [c] ++ r from rfl, keys_app, List.append_assoc]
  rw [this]
  rfl
/-- the keys of a text's holes, as they stand -/
def holes (ts : List Tk) : List (List Nat) := ts.filterMap fun | .ch _ => none | .ho k => some k
theorem keys_raw : ∀ (ts : List Tk) (cur : List Nat), keys (rawC cur ts) = (holes ts).map fun k => .inr (S k)
  | [], cur => rfl
  | .ch c :: r, cur => keys_raw r _
  | .ho k :: r, cur => by
    show .inr (S k) :: keys (rawC [] r) = _
    rw [keys_raw r []]
    rfl
theorem keys_read (ts : List Tk) : keys (read ts) = (holes ts).map fun k => .inr (S k) := by
  unfold read
  rw [keys_merge, keys_raw]
theorem keys_sub {cs : List Cl} {k : Key} (h : .inr k ∈ cs) : k ∈ keys cs := List.mem_filterMap.mpr ⟨_, h, rfl⟩
/-! keys by manners -/
def toI : Key → Int
  | .inl i => i
  | .inr s => (intText? s).getD 0
/-- one cell keyed, n holes stand ahead of it -/
def key1 (m : Str) (n : Nat) : Cl → Cl
  | .inl l => .inl l
  | .inr k => .inr (if m = "name" then k else if m = "number" then .inl (toI k) else .inl (n : Int))
def keyC (m : Str) : Nat → List Cl → List Cl
  | _, [] => []
  | n, c :: r => key1 m n c :: keyC m (n + (keys [c]).length) r
/-! each once -/
def add1 (acc : List Key) (k : Key) : List Key := if k ∈ acc then acc else acc ++ [k]
def uniq (ks : List Key) : List Key := ks.foldl add1 []
theorem uniq_snoc (ks : List Key) (k : Key) : uniq (ks ++ [k]) = add1 (uniq ks) k := by
  unfold uniq
  rw [List.foldl_append]
  rfl
theorem add1_mem {acc : List Key} {k x : Key} : x ∈ add1 acc k ↔ x ∈ acc ∨ x = k := by
  unfold add1
  split
  · rename_i h
    exact ⟨.inl, fun z => z.elim id fun e => e ▸ h⟩
  · rw [List.mem_append, List.mem_singleton]
theorem uniq_mem {ks : List Key} {x : Key} : x ∈ uniq ks ↔ x ∈ ks := by
  unfold uniq
  have : ∀ (ks acc : List Key), x ∈ ks.foldl add1 acc ↔ x ∈ acc ∨ x ∈ ks := by
    intro ks
    induction ks with
    | nil => exact fun acc => by simp
    | cons k r ih =>
      intro acc
      rw [List.foldl_cons, ih, add1_mem, List.mem_cons, or_assoc]
  rw [this]
  simp
theorem uniq_len (ks : List Key) : (uniq ks).length ≤ ks.length := by
  unfold uniq
  have : ∀ (ks acc : List Key), (ks.foldl add1 acc).length ≤ acc.length + ks.length := by
    intro ks
    induction ks with
    | nil => exact fun acc => Nat.le_refl _
    | cons k r ih =>
      intro acc
      have h1 := ih (add1 acc k)
      have h2 : (add1 acc k).length ≤ acc.length + 1 := by
        unfold add1
        split
        · omega
        · rw [List.length_append]
          exact Nat.le_refl _
      rw [List.foldl_cons, List.length_cons]
      omega
  have := this ks []
  simpa using this
theorem uniq_nodup (ks : List Key) : (uniq ks).Nodup := by
  unfold uniq
  have : ∀ (ks acc : List Key), acc.Nodup → (ks.foldl add1 acc).Nodup := by
    intro ks
    induction ks with
    | nil => exact fun acc h => h
    | cons k r ih =>
      intro acc h
      refine ih _ ?_
      unfold add1
      split
      · exact h
      · rename_i hk
        exact List.nodup_append.mpr ⟨h, (List.nodup_cons.mpr ⟨List.not_mem_nil, List.nodup_nil⟩), fun a ha b hb z => hk (by rw [List.mem_singleton] at hb; rw [← hb, ← z]; exact ha)⟩
  exact this ks [] List.nodup_nil
/-! keys as values -/
theorem eqV_kV (a b : Key) : eqV (kV a) (kV b) = decide (a = b) := by
  cases a with
  | inl i =>
    cases b with
    | inl j =>
      show (i == j) = _
      by_cases e : i = j
      · subst e; simp
      · rw [decide_eq_false (fun z => e (Sum.inl.inj z))]
        simpa using e
    | inr t =>
      rw [decide_eq_false (fun z => nomatch z)]
      rfl
  | inr s =>
    cases b with
    | inl j =>
      rw [decide_eq_false (fun z => nomatch z)]
      rfl
    | inr t =>
      show (s == t) = _
      by_cases e : s = t
      · subst e; simp
      · rw [decide_eq_false (fun z => e (Sum.inr.inj z))]
        simpa using e
theorem flat_kV (k : Key) : flatV (kV k) = true := by cases k <;> rfl
theorem inV_kV (k : Key) (ks : List Key) : inV (kV k) (ks.map kV) = decide (k ∈ ks) := by
  unfold inV
  induction ks with
  | nil => rfl
  | cons x r ih =>
    rw [List.map_cons, List.any_cons, ih, eqV_kV]
    by_cases e : x = k
    · subst e
      simp
    · rw [decide_eq_false e, Bool.false_or]
      exact decide_eq_decide.mpr (by rw [List.mem_cons]; exact ⟨.inr, fun z => z.resolve_left fun z => e z.symm⟩)
theorem all_flat (ks : List Key) : (ks.map kV).all flatV = true := List.all_eq_true.mpr fun x hx => by
  obtain ⟨k, _, rfl⟩ := List.mem_map.mp hx
  exact flat_kV k
/-! cells with their addresses -/
def isHole : Cl → Bool | .inl _ => false | .inr _ => true
def keyV : Cl → V | .inl _ => .non | .inr k => kV k
theorem pcs_pairs {H : Hp} : ∀ {cs : List Cl} {ys : List V}, PcsAt H ys (cs.map pc) → ∃ L : List (Addr × Cl), ys = L.map (fun q => V.ref q.1) ∧ L.map (·.2) = cs ∧ ∀ q ∈ L, H q.1 = some (.tup (pc q.2).vs)
  | [], ys, h => by
    cases h
    exact ⟨[], rfl, rfl, fun _ z => nomatch z⟩
  | c :: cs, ys, h => by
    cases h with
    | cons hab r =>
      obtain ⟨t, e1, e2⟩ := hab
      obtain ⟨L, h1, h2, h3⟩ := pcs_pairs r
      refine ⟨(t, c) :: L, by rw [e1, h1]; rfl, by rw [← h2]; rfl, fun q hq => ?_⟩
      rcases List.mem_cons.mp hq with rfl | hq
      · exact e2
      · exact h3 q hq
theorem filt_keys : ∀ L : List (Addr × Cl), (L.filter fun q => isHole q.2).map (fun q => keyV q.2) = (keys (L.map (·.2))).map kV
  | [] => rfl
  | (t, .inl l) :: L => filt_keys L
  | (t, .inr k) :: L => by
    show kV k :: (L.filter fun q => isHole q.2).map (fun q => keyV q.2) = kV k :: (keys (L.map (·.2))).map kV
    rw [filt_keys L]
theorem read_len (ts : List Tk) : (read ts).length ≤ 2 * ts.length + 1 := by
  have := merge_len (raw [] ts)
  rw [read_map, List.length_map] at this
  exact Nat.le_trans this (raw_len ts [])
end Tc

/-! Ow: what a class of the program's own answers to operators, len, [], truth, in, a call. -/
namespace Ow
open PySem PySem.Spec PyProof.Rows L2
section
variable {X : Cx} {CX : CXT} {k : Nat} {f : Addr} {fd : FuncData} {ps : List Str} {sp : Sp} {E : XK}
theorem run_in1 {pins : List (Addr × Obj)} {σ : L2.St} {H : Hp} {s : Shared} {Q : VK} {us : List Value} {vs : List V} (F : FnOk X.prog X.w X.K X.mg X.base CX k f fd ps sp) (hr : Room (k + 1) X.A) (hb : Binds X.K fd ps []) (hx : Passes CX X E)
    (I : Inv X pins σ H s) (r : Vals vs us) (h : sp vs H Q E) : wpAny (model X.prog X.w) X.A.in1 (call (.ref f) us) (EP X pins σ Q) X.xe s := by
  have hl : us.length = ps.length := by rw [← r.length]; exact F.len _ _ _ _ h
  have e0 : Env0 X.prog X.w X.K X.mg X.base X.A.in1 X.stack s H := by
    have e := I.env0
    exact ⟨e.frames, e.mod, e.bs, e.bsz, e.funs, e.frf, e.hok, e.bare⟩
  have b := hb s us I.kIn (by rw [List.append_nil]; exact hl)
  rw [List.append_nil] at b
  refine wpAny_call (codeAny_mono (F.run X.A.in1 X.stack s H ⟨us, []⟩ us vs Q E hr.in1 e0 b r h) fun z s' hq => ?_)
  cases z with
  | error e => exact hx pins σ H s e s' I hq
  | ok fl =>
    cases fl with
    | ret v => exact I.after hq
    | next => exact False.elim hq
    | brk => exact False.elim hq
    | cont => exact False.elim hq
/-- x op y by x's own method, y of the same class -/
def rOwn2 (C : Addr) (sp : Sp) (E : XK) : R2 := fun x y H Q => ∃ a b dx dy fs gs, x = .ref a ∧ y = .ref b ∧ H a = some (.ins C dx fs) ∧ H b = some (.ins C dy gs) ∧ sp [x, y] H Q E
/-- -x, ~x by its own method -/
def rOwn1 (C : Addr) (sp : Sp) (E : XK) : V → Hp → VK → Prop := fun x H Q => ∃ a dx fs, x = .ref a ∧ H a = some (.ins C dx fs) ∧ sp [x] H Q E
/-- x[i] by its own __getitem__ -/
def rOwnIx (C : Addr) (sp : Sp) (E : XK) : R2 := fun x y H Q => ∃ a dx fs, x = .ref a ∧ H a = some (.ins C dx fs) ∧ sp [x, y] H Q E
variable {a b : Expr} {ta tb : TE} {pos : Pos}
/-- len(x) by its own __len__ -/
def rOwnLen (C : Addr) (sp : Sp) (E : XK) : List V → Hp → VK → Prop := fun xs H Q => ∃ a dx fs, xs = [.ref a] ∧ H a = some (.ins C dx fs) ∧ sp [.ref a] H (fun v H' => ∃ n : Int, v = .int n ∧ 0 ≤ n ∧ n < 2 ^ 63 ∧ Q (.int n) H') E
theorem cr_ownLen {C : Addr} (F : FnOk X.prog X.w X.K X.mg X.base CX k f fd ps sp) (hr : Room (k + 1) X.A) (hm : Meth X.K C "__len__" f) (hb : Binds X.K fd ps []) (hx : Passes CX X E) : CallR X (.builtin "len") (rOwnLen C sp E) := by
  intro pins s σ H xs us Q I r h
  obtain ⟨a, dx, fs, rfl, ha, q⟩ := h
  obtain ⟨u, rfl, rx⟩ := vals1 r
  cases rx
  obtain ⟨mA, J, _⟩ := ins_get I.hok ha
  obtain ⟨od, J, _⟩ := J.look
  obtain ⟨m, hF⟩ := I.fr
  refine PySem.W.len_K hF I.ok.mod.kin J hm.at_ hm.fn ?_
  refine wpAny_mono (run_in1 F hr hb hx I (us := [.ref a]) (.cons (show RelV (V.ref a) (.ref a) from rfl) .nil) q) (fun z s' ⟨v, H', I', rz, n, ev, n0, n1, q'⟩ => ?_) fun _ _ z => z
  subst ev
  obtain ⟨t, rfl⟩ := rz
  exact ⟨⟨n0, n1⟩, ⟨.int n, H', I'.tok _, ⟨_, rfl⟩, q'⟩⟩
end
section
variable {K : PySem.W.Frag} {X : Cx} {σ : L2.St} {H : Hp} {Q : VK} {E : XK} {sp : Sp} {C a b dx dy : Addr} {fs gs : List (Str × V)} {y : V} {tf : TE} {t : TA}
theorem c_own2 (ha : H a = some (.ins C dx fs)) (hb : H b = some (.ins C dy gs)) (q : sp [.ref a, .ref b] H Q E) : rOwn2 C sp E (.ref a) (.ref b) H Q := ⟨a, b, dx, dy, fs, gs, rfl, rfl, ha, hb, q⟩
theorem c_ownLen (ha : H a = some (.ins C dx fs)) (q : sp [.ref a] H (fun v H' => ∃ n : Int, v = .int n ∧ 0 ≤ n ∧ n < 2 ^ 63 ∧ Q (.int n) H') E) : rOwnLen C sp E [.ref a] H Q := ⟨a, dx, fs, rfl, ha, q⟩
def callLeaf (X : Cx) (C : Addr) (sp : Sp) (E : XK) (t : TA) (σ : L2.St) (Q : VK) (y : V) (H1 : Hp) : Prop := ∃ a, y = V.ref a ∧ t σ H1 fun vs H2 => StX.InsC X H2 a C ∧ sp (V.ref a :: vs) H2 Q E
theorem w_callO (h : tf σ H (callLeaf X C sp E t σ Q)) : StX.tCallO X C sp E tf t σ H Q := h
def callArgs (X : Cx) (C : Addr) (sp : Sp) (E : XK) (a : Addr) (Q : VK) (vs : List V) (H2 : Hp) : Prop := StX.InsC X H2 a C ∧ sp (V.ref a :: vs) H2 Q E
theorem c_callO (h : t σ H (callArgs X C sp E a Q)) : callLeaf X C sp E t σ Q (.ref a) H := ⟨a, rfl, h⟩
theorem c_callA {vs : List V} (h : H a = some (.ins C dx fs)) (q : sp (V.ref a :: vs) H Q E) : callArgs X C sp E a Q vs H := ⟨.inr ⟨dx, fs, h⟩, q⟩
def getLeaf (t : TE) (t' : TE) (σ : L2.St) (Q : VK) (x : V) (H1 : Hp) : Prop := ∃ a, x = .ref a ∧ IsD H1 a ∧ t σ H1 fun y H2 => t' σ H2 fun z H3 => ∃ o, DGet H3 a y o ∧ Q (o.getD z) H3
theorem w_par3 {i j l : Nat} {D : Ends} (h : t σ H fun vs H1 => ∃ u v w, vs = [u, v, w] ∧ D.nx (((σ.set i (some u)).set j (some v)).set l (some w)) H1) : tPar3 i j l t D σ H := h
theorem c_par3 {G : V → V → V → Prop} {u v w : V} (q : G u v w) : ∃ x y z, [u, v, w] = [x, y, z] ∧ G x y z := ⟨u, v, w, rfl, q⟩
theorem nT : (!true) = false := rfl
end
end Ow

/-! Tl: comprehensions over dicts with int and text keys, over lists with a test, over enumerate. -/
namespace Tl
open PySem L2
section
variable {σ : L2.St} {H : Hp} {c : Addr} {kvs : List (Key × V)} {j : Nat} {te td : TE} {tt : TT} {Q : VK}
/-- behind a lock: what stood stands, new things are new -/
def LockAt (H : Hp) (c : Addr) (od : Obj) (kvs : List (Key × V)) (H' : Hp) : Prop := H' c = some (.frz od (.dK kvs)) ∧ ∀ b o, H b = some o → b ≠ c → H' b = some o
theorem LockAt.to {H H' H'' : Hp} {c : Addr} {od : Obj} {kvs : List (Key × V)} (h : LockAt H c od kvs H') (s : Same H' H'') : LockAt H c od kvs H'' := ⟨s _ _ h.1, fun b o e n => s _ _ (h.2 b o e n)⟩
theorem val_mem : ∀ {kvs : List (Key × V)} {k : Key} {v : V}, (kvs.map (·.1)).Nodup → (k, v) ∈ kvs → valV kvs k = some v
  | p :: r, k, v, nd, h => by
    have nd' := List.nodup_cons.mp nd
    by_cases e : p.1 = k
    · rw [valV_pos e]
      rcases List.mem_cons.mp h with h | h
      · rw [← h]
      · exact absurd (List.mem_map.mpr ⟨_, h, e.symm⟩) nd'.1
    · rw [valV_neg e]
      refine val_mem nd'.2 ((List.mem_cons.mp h).resolve_left fun z => e ?_)
      rw [← z]
theorem val_some {kvs : List (Key × V)} {k : Key} (h : k ∈ kvs.map (·.1)) : ∃ v, valV kvs k = some v := by
  induction kvs with
  | nil => cases h
  | cons p r ih =>
    by_cases e : p.1 = k
    · exact ⟨_, valV_pos e⟩
    · rw [valV_neg e]
      exact ih ((List.mem_cons.mp h).resolve_left fun z => e z.symm)
theorem putK_new {kvs : List (Key × V)} {k : Key} {v : V} (h : k ∉ kvs.map (·.1)) : putK kvs k v = kvs ++ [(k, v)] := by
  unfold putK
  have : (kvs.any fun p => decide (p.1 = k)) = false := by
    rw [← Bool.not_eq_true, List.any_eq_true]
    rintro ⟨p, hp, e⟩
    exact h (List.mem_map.mpr ⟨p, hp, of_decide_eq_true e⟩)
  first
    | rw [if_neg (by rw [this]; exact Bool.false_ne_true)]
    | simp [this]
/-- numbered from f on -/
def numd (f : Int) : List V → List (Key × V)
  | [] => []
  | x :: r => (.inl f, x) :: numd (f + 1) r
end
section
variable {σ : L2.St} {H : Hp} {K : PySem.W.Frag} {a : Addr} {j : Nat} {ti te : TE} {tt : TT} {Q : VK}
/-- [F p for p in xs if P p], xs a list of things that stand as they are -/
theorem fm_list {α : Type} {xs : List α} {G F : α → V} {P : α → Bool} (ha : H a = some (.lst (xs.map G))) (hsz : xs.length < 100000)
    (hi : ∀ R : VK, R (.ref a) H → ti σ H R)
    (test : ∀ (H' : Hp) (z : α) (R : Bool → Hp → Prop), Same H H' → z ∈ xs → (∀ H'', Same H' H'' → R (P z) H'') → tt ((wipe σ [j]).set j (some (G z))) H' R)
    (elt : ∀ (H' : Hp) (z : α) (R : VK), Same H H' → z ∈ xs → P z = true → (∀ H'', Same H' H'' → R (F z) H'') → te ((wipe σ [j]).set j (some (G z))) H' R)
    (done : ∀ (D : Addr) (H' : Hp), H D = none → Same H H' → H' D = some (.lst ((xs.filter P).map F)) → Q (.ref D) H') : tLc (iList K ti) (gName j) tt te [j] σ H Q := by
  refine Eg.w_lc (Eg.w_iL (hi _ (Eg.c_iL (SqL.of ha) ?_)))
  intro D hD
  refine lc_list (xs := xs.map G) (fun n H' => Same H H' ∧ H' D = some (.lst (((xs.take n).filter P).map F))) ⟨Eg.same_new (Same.refl _) hD, upd_same⟩ (fun n H' _ h => SqL.of (h.1 _ _ ha)) ?_ ?_
  · rintro n x H1 hx ⟨s1, h2⟩
    rw [List.getElem?_map] at hx
    obtain ⟨z, hz, rfl⟩ := Option.map_eq_some_iff.mp hx
    obtain ⟨hlt, he⟩ := List.getElem?_eq_some_iff.mp hz
    refine Eg.w_gN (Eg.w_wipe ?_ (test H1 z _ s1 (List.mem_of_getElem? hz) fun H2 s2 => ?_))
    · show (((σ.set j none).set j (some (G z))).set j none) = σ.set j none
      rw [List.set_set, List.set_set]
    · have fl := List.length_filter_le P (xs.take n)
      rw [List.length_take] at fl
      cases hp : P z with
      | true =>
        refine iteT (elt H2 z _ (s1.trans s2) (List.mem_of_getElem? hz) hp fun H3 s3 => ⟨_, s3 _ _ (s2 _ _ h2), ?_, Eg.same_mut ((s1.trans s2).trans s3) hD, ?_⟩)
        · rw [List.length_map, sizeLine_eq]
          omega
        · rw [upd_same, List.take_succ_eq_append_getElem hlt, he, List.filter_append]
          simp [hp]
      | false =>
        refine iteF ⟨s1.trans s2, ?_⟩
        rw [s2 _ _ h2, List.take_succ_eq_append_getElem hlt, he, List.filter_append]
        simp [hp]
  · rintro H1 ⟨s1, h2⟩
    rw [List.length_map, List.take_length] at h2
    exact done D H1 hD s1 h2
def enumLeaf (K : PySem.W.Frag) (R : It → Hp → Prop) (vs : List V) (H1 : Hp) : Prop := ∃ (a : Addr) (xs : List V), vs = [.ref a] ∧ SqL K H1 a xs ∧ R (Ite K a) H1
theorem w_iE {t : TA} {R : It → Hp → Prop} (h : t σ H (enumLeaf K R)) : iEnum K t σ H R := h
theorem c_iE {R : It → Hp → Prop} {xs : List V} (hs : SqL K H a xs) (q : R (Ite K a) H) : enumLeaf K R [.ref a] H := ⟨a, xs, rfl, hs, q⟩
end
end Tl

/-! Sl2: comprehensions of ints over a locked dict told by any expression, over lists of ints. -/
namespace Sl
open PySem L2 Sm
/-- the numbers that were seen -/
def SeenL (H : Hp) (d : Addr) (xs : List Int) : Prop := H d = some (.dK (xs.map fun x => (Sum.inl x, V.bl true)))
theorem seen_val {xs : List Int} {n : Int} : valV (xs.map fun x => ((Sum.inl x : Key), V.bl true)) (Sum.inl n) = if n ∈ xs then some (.bl true) else none := by
  induction xs with
  | nil => rfl
  | cons x r ih =>
    rw [List.map_cons]
    by_cases e : x = n
    · rw [valV_pos (by rw [e]), if_pos (by rw [e]; exact List.mem_cons_self)]
    · rw [valV_neg (fun z => e (Sum.inl.inj z)), ih]
      by_cases h : n ∈ r
      · rw [if_pos h, if_pos (List.mem_cons_of_mem _ h)]
      · rw [if_neg h, if_neg (fun z => (List.mem_cons.mp z).elim (fun z => e z.symm) h)]
theorem SeenL.get {H : Hp} {d : Addr} {xs : List Int} (h : SeenL H d xs) (n : Int) : ∃ r, DGet H d (.int n) r ∧ r.isSome = decide (n ∈ xs) := by
  refine ⟨_, DGet.k (k := Sum.inl n) h, ?_⟩
  rw [seen_val]
  by_cases e : n ∈ xs
  · rw [if_pos e, decide_eq_true e]; rfl
  · rw [if_neg e, decide_eq_false e]; rfl
theorem SeenL.put {H : Hp} {d : Addr} {xs : List Int} {n : Int} (h : SeenL H d xs) (hn : n ∉ xs) (hs : xs.length < 100000) :
    ∃ kvs, DPut H d (.int n) (.bl true) (upd H d (.dK kvs)) ∧ SeenL (upd H d (.dK kvs)) d (xs ++ [n]) := by
  have p := DPut.k (k := Sum.inl n) (v := .bl true) h (by rw [List.length_map, sizeLine_eq]; omega)
  rw [putK_new _ (by rw [seen_val, if_neg hn])] at p
  refine ⟨_, p, ?_⟩
  unfold SeenL
  rw [upd_same, List.map_append]
  rfl
end Sl
namespace Eg
open PySem L2
def dispLeaf (p : Addr) (x : V) (Q : VK) (y : V) (H2 : Hp) : Prop := H2 p = some (.dK []) ∧ ∃ k : Key, x = kV k ∧ Q (.ref p) (upd H2 p (.dK [(k, y)]))
theorem w_disp1 {tk tv : TE} {σ : L2.St} {H : Hp} {Q : VK} (h : ∀ p, H p = none → tk σ (upd H p (.dK [])) fun x H1 => tv σ H1 (dispLeaf p x Q)) : tDisp [(tk, tv)] σ H Q := by
  intro p hp
  show tk σ _ fun x H1 => tv σ H1 fun y H2 => _
  have e : (fun x H1 => tv σ H1 fun y H2 => H2 p = some (.dK []) ∧ ∃ kvs : List (Key × V), [(x, y)] = kvs.map (fun kv => (kV kv.1, kv.2)) ∧ kvs.length ≤ 15 ∧ Q (.ref p) (upd H2 p (.dK (mergeK [] kvs)))) = fun x H1 => tv σ H1 (dispLeaf p x Q) := by
    funext x H1
    congr 1
    funext y H2
    refine propext ⟨?_, ?_⟩
    · rintro ⟨h0, kvs, e, _, q⟩
      match kvs, e, q with
      | [(k, z)], e, q =>
        have e := (List.cons.inj e).1
        have e1 : x = kV k := (Prod.mk.inj e).1
        have e2 : y = z := (Prod.mk.inj e).2
        exact ⟨h0, k, e1, by rw [e2]; exact q⟩
    · rintro ⟨h0, k, e, q⟩
      exact ⟨h0, [(k, y)], by rw [e]; rfl, (show 1 ≤ 15 by decide), q⟩
  have := h p hp
  rw [← e] at this
  exact this
theorem c_dispI {H : Hp} {Q : VK} {p : Addr} {n : Int} {y : V} (h : H p = some (.dK [])) (q : Q (.ref p) (upd H p (.dK [(Sum.inl n, y)]))) : dispLeaf p (.int n) Q y H := ⟨h, Sum.inl n, rfl, q⟩
def rTupQ (K : PySem.W.Frag) : List V → Hp → VK → Prop := fun xs H Q => ∃ p ys, xs = [V.ref p] ∧ ((SqL K H p ys ∧ ∀ l, H l = none → Q (.ref l) (upd H l (.tup ys))) ∨ (SqT K H p ys ∧ Q (.ref p) H))
theorem cr_tup {X : Cx} : CallR X (.type "tuple") (rTupQ X.K) := call_tuple_of
theorem c_tupL {K : PySem.W.Frag} {H : Hp} {p : Addr} {Q : VK} {ys : List V} (h : SqL K H p ys) (q : ∀ l, H l = none → Q (.ref l) (upd H l (.tup ys))) : rTupQ K [V.ref p] H Q := ⟨p, ys, rfl, .inl ⟨h, q⟩⟩
end Eg

/-! Gd: defs that tell data as text (repr, str, f-strings): the promise where nothing that tells itself is under way. -/
namespace Gd
open PySem PySem.Spec PyProof.Rows L2
/-- nothing that tells itself is under way -/
def Still (A : Around) : Prop := A.guards = some []
structure FnG (P : Program) (w : World) (K : PySem.W.Frag) (mg : Str → Option Value) (base : Heap) (CX : CXT) (k : Nat) (f : Addr) (fd : FuncData) (ps : List Str) (sp : Sp) : Prop where
  lenG : ∀ vs H Q E, sp vs H Q E → vs.length = ps.length
  runG : ∀ (A : Around) (out : List Env) (s : Shared) (H : Hp) (ar : Args) (us : List Value) (vs : List V) (Q : VK) (E : XK), Room k A → Still A → Env0 P w K mg base A out s H → BindsTo s fd ar (ps.zip us) → Vals vs us →
    sp vs H Q E → codeAny (model P w) A (.call (.ref f) ar) (CR CX out P w H s Q E) s
section
variable {P : Program} {w : World} {K : PySem.W.Frag} {mg : Str → Option Value} {base : Heap} {CX : CXT} {k : Nat} {f : Addr} {fd : FuncData} {ps : List Str} {sp : Sp}
theorem FnG.of (F : FnOk P w K mg base CX k f fd ps sp) : FnG P w K mg base CX k f fd ps sp := ⟨F.len, fun A out s H ar us vs Q E hr _ => F.run A out s H ar us vs Q E hr⟩
theorem u70 {A : Around} {k : Nat} (h : Room k A) : A.units + 70 < cLine := by
  have := h.un
  omega
theorem still_deeper {A : Around} {env : Env} (h : Still A) : Still (A.deeper env) := h
/-- a def's body, where nothing is under way -/
theorem Fun.okG {x qual : Str} {st : Stmt} {N : List Str} (F : Fun K x qual st f fd) (S : FnScope N ps (defScope st)) (len : ∀ vs H Q E, sp vs H Q E → vs.length = ps.length)
    (body : ∀ (cdv : Value) (A : Around) (out : List Env) (s : Shared) (H : Hp) (vs : List V) (Q : VK) (E : XK), Room k (A.deeper (envOfC qual (defScope st) s.heap.objs.size f cdv)) → Still (A.deeper (envOfC qual (defScope st) s.heap.objs.size f cdv)) → sp vs H Q E →
      ∃ t, PSs (cxOf CX0 P w K mg base N qual (defScope st) f cdv A out s H E).nox (defBody st) t ∧ t { nx := fun _ H' => Q .non H', rt := Q } (start N vs) H) : FnG P w K mg base CX0 (k + 1) f fd ps sp := by
  obtain ⟨oc, od, kV, doc, pm, an, cdv, ct, osl, rfl, lk, hcd⟩ := F.ex
  refine ⟨len, ?_⟩
  intro A out s H ar us vs Q E hr hg e0 hb r hs
  have hlen := len _ _ _ _ hs
  have kin : K.In s.heap := e0.mod.kin.keeps fun b o z => (e0.bs b o z).1
  have nol : s.heap.NoLimit := e0.mod.nolimit.keeps fun b o z => (e0.bs b o z).1
  have kinds : ∀ y ∈ ps.zip us, (defScope st).names.lookup y.1 = some .local ∨ ((defScope st).names.lookup y.1 = some .cell ∧ ((cellsFrom (s.heap.objs.size + 1) (defScope st).names []).lookup y.1).isSome = true) := by
    rintro ⟨n, v⟩ hy
    exact (S.par n (List.of_mem_zip hy).1).elim .inl fun q => .inr ⟨q, PySem.W.cellsFrom_some _ _ _ (.inl q)⟩
  refine codeAny_call_function hr.depth (kin _ _ lk) rfl S.co S.gen rfl (PySem.W.codeRec_of kin hcd) (hb _ _ _ _ (wpAny_newFunctionEnv_cells S.kind kinds fun env he s1 x => ?_))
  subst he
  obtain ⟨t, ht, q⟩ := body cdv A out s H vs Q E (hr.deeper _) (still_deeper hg) hs
  have I : Inv (cxOf CX0 P w K mg base N qual (defScope st) f cdv A out s H E) [] (start N vs) H s1 := inv_start S hr.hd e0 hlen r x
  refine ⟨nol.keeps x.toInCall.keep, codeAny_func (wpAny_mono (ht.nox.run [] s1 (start N vs) H _ I q) (fun fl s' z => ?_) fun e s' z => z)⟩
  cases fl with
  | ret u => exact let ⟨v, _, H', J, rv, y⟩ := z; (⟨v, H', J.os, J.bare, J.base, J.hok, rv, y⟩ : CE out P w H s Q u s')
  | next => exact let ⟨_, H', J, y⟩ := z; (⟨V.non, H', J.os, J.bare, J.base, J.hok, rfl, y⟩ : CE out P w H s Q Value.none s')
  | brk => exact let ⟨_, _, _, y⟩ := z; False.elim y
  | cont => exact let ⟨_, _, _, y⟩ := z; False.elim y
end
section
variable {X : Cx} {CX : CXT} {k : Nat} {f C : Addr} {fd : FuncData} {ps : List Str} {sp : Sp} {dvs : List V} {ds : List Value} {E : XK} {x m : Str} {p pos apos : Pos} {e o : Expr} {es : List Expr} {ta : TE} {t : TA}
theorem run_fnG {pins : List (Addr × Obj)} {σ : L2.St} {H : Hp} {s : Shared} {Q : VK} {us : List Value} {vs : List V} (F : FnG X.prog X.w X.K X.mg X.base CX k f fd ps sp) (hr : Room k X.A) (hg : Still X.A) (hb : Binds X.K fd ps ds) (hd : Vals dvs ds) (hx : Passes CX X E)
    (I : Inv X pins σ H s) (r : Vals vs us) (q : sp (vs ++ dvs) H Q E) : wpAny (model X.prog X.w) X.A (call (.ref f) us) (EP X pins σ Q) X.xe s := by
  have rr : Vals (vs ++ dvs) (us ++ ds) := r.append hd
  have ll : (us ++ ds).length = ps.length := rr.length.symm.trans (F.lenG _ _ _ _ q)
  refine wpAny_call (codeAny_mono (F.runG X.A X.stack s H ⟨us, []⟩ (us ++ ds) (vs ++ dvs) Q E hr hg I.env0 (hb s us I.kIn ll) rr q) fun z s' hz => ?_)
  cases z with
  | error e => exact hx pins σ H s e s' I hz
  | ok fl => cases fl with
    | ret u => exact I.after hz
    | next => exact hz.elim
    | brk => exact hz.elim
    | cont => exact hz.elim
/-- f(e, ..) -/
theorem pe_callG (F : FnG X.prog X.w X.K X.mg X.base CX k f fd ps sp) (hr : Room k X.A) (st : Still X.A) (hg : Gl X x) (hm : X.mg x = some (.ref f)) (hk : PySem.W.keepIn X.K (.ref f) = true) (hb : Binds X.K fd ps ds) (hd : Vals dvs ds) (hx : Passes CX X E)
    (ha : PA X (e :: es) t) (hdb : (x == ("__debug__" : Str)) = false := by decide) (he : starEach (e :: es) X.env = (false, eval e X.env) :: starEach es X.env := by rfl) (hpl : (backTo pos (starEach es X.env)).any (·.1) = false := by rfl) :
    PE X (.Call (.Name x p) (e :: es) [] pos) (tCall sp dvs E t) := by
  refine ⟨fun pins s σ H Q I q => wpAny_Call_Name_kw (ld_glob I hg hm ?_ hdb)⟩
  exact PySem.W.callWith_K (h₀ := X.base) I.ok.mod.kin hk (thn (ha.run pos pins s σ H _ I q) fun us s1 ⟨vs, H1, I1, r, z⟩ => ⟨I1.kIn, run_fnG F hr st hb hd hx I1 r z⟩) he hpl
/-- repr(x) of data -/
def rRepr (K : PySem.W.Frag) : List V → Hp → VK → Prop := fun xs H Q => ∃ (a : Addr) (d : PyData), xs = [V.ref a] ∧ Dp K H (.ref a) d ∧ d.showable = true ∧ d.hasDict = false ∧ d.depth ≤ 64 ∧ d.shown.length ≤ sizeLine ∧ Q (.str d.shown) H
theorem cr_repr (st : Still X.A) (hu : X.A.units + 70 < cLine) : CallR X (.builtin "repr") (rRepr X.K) := by
  intro pins s σ H xs us Q I r q
  obtain ⟨a, d, rfl, hd, hs, hn, hdp, hz, q⟩ := q
  obtain ⟨u, rfl, ru⟩ := vals1 r
  obtain ⟨as, rd⟩ := Dp.reads I d _ _ hd ru
  cases ru
  exact repr_of_reads' rd hs (PyData.noDict_hsm hn) st (by omega) (fun _ _ e => e) (fun h' u tk hk => ⟨.str d.shown, H, I.kept hk, ⟨u, rfl⟩, q⟩) hz
/-- {x} of data -/
def tFmtD (K : PySem.W.Frag) (te : TE) : TE := fun σ H Q => te σ H fun x H1 => ∃ (a : Addr) (d : PyData), x = .ref a ∧ Dp K H1 (.ref a) d ∧ d.showable = true ∧ d.hasDict = false ∧ d.depth ≤ 64 ∧ d.shown.length ≤ sizeLine ∧ Q (.str d.shown) H1
/-- str(x) by its own __str__ -/
def rOwnStr (C : Addr) (sp : Sp) (E : XK) : List V → Hp → VK → Prop := fun xs H Q => ∃ a dx fs, xs = [V.ref a] ∧ H a = some (.ins C dx fs) ∧ sp [V.ref a] H (fun v H' => ∃ z, v = .str z ∧ Q (.str z) H') E
end
end Gd

/-! Fs: a form as a text: the pieces and their lengths. -/
namespace Fs
open PySem L2 Sm
abbrev tI (i : Int) : Str := Str.ofString (toString i)
theorem log_small {i : Int} (h : i.natAbs < 1000000000) : i.natAbs.log2 < 1920 := by
  by_cases z : i.natAbs = 0
  · rw [z]
    decide
  · refine (Nat.log2_lt z).mpr (Nat.lt_of_lt_of_le h ?_)
    exact Nat.le_trans (show (1000000000 : Nat) ≤ 2 ^ 30 by decide) (Nat.pow_le_pow_right (by decide) (by decide))
def tupS (k : List Int) : Str := tupleText (k.map tI)
def signS (z : Int) : Str := if decide (z < 0) = true then "-" else "+"
def partS (k : List Int) (z : Int) : Str := Str.empty ++ (" " : Str) ++ signS z ++ (" " : Str) ++ tI (if z < 0 then -z else z) ++ (" * " : Str) ++ tupS k
def shownS (st : Int) (ks : List (List Int)) (f : List Int → Int) : Str := ks.foldl (fun a k => a ++ partS k (f k)) (tI st)
def small (k : List Int) : Prop := k.length = 3 ∧ ∀ x ∈ k, x.natAbs < 1000000000
theorem sp1 : ((" " : Str)).length = 1 := by decide +kernel
theorem sp3 : ((" * " : Str)).length = 3 := by decide +kernel
theorem emp0 : Str.empty.length = 0 := by decide +kernel
theorem sg1 (z : Int) : (signS z).length = 1 := by
  unfold signS
  split <;> decide +kernel
/-- what the law adds for one sort -/
def stepS (a : Str) (k : List Int) (z : Int) : Str := a ++ (if decide (z < 0) = true then (" - " : Str) else (" + " : Str)) ++ tI (if z < 0 then -z else z) ++ (" * " : Str)
def tailS (b : Str) (k : List Int) : Str := b ++ ("(" : Str) ++ Txt.join (", " : Str) (k.map tI) ++ (")" : Str)
end Fs

/-! Ls: list(text). -/
namespace PySem.Ls
open PySem PySem.W PySem.Calls PyProof.Rows PySem.Spec
section
variable {prog : Program} {w : World} {A : Around} {E : Value → Shared → Prop} {s : Shared} {x : Str} {t : Tok}
theorem hint_str {Q : Bool → Shared → Prop} (h : Q false s) : wpAny (model prog w) A (Builtin.List.listLengthHint (.str x t)) Q E s := by
  have hT : typeOf (.str x t) = pure (.type "str") := rfl
  unfold Builtin.List.listLengthHint
  refine wpAny_bind (wpAny_specialOf_val hT PySem.F.slot_str_len.lookup ?_)
  generalize hid : ("str.__len__" : String) = id0
  wp_delta
  rw [show splitId id0 = some ("str", "__len__") from by subst hid; decide +kernel]
  subst hid
  refine wpAny_bind (wpAny_isInstance_val (T := "str") (b := true) hT (by rw [isSubtype_type]; kernel_rfl) ?_)
  refine wpAny_ite_split (fun hab => absurd hab (by decide)) (fun _ => ?_)
  refine wpAny_ite_split (fun _ => ?_) (fun hab => absurd (by decide +kernel) hab)
  exact wpAny_pure h
theorem extend_str {R : Result → Shared → Prop} (hh : A.handled = none) (S : Addr) (res : Value) (c₀ : Nat) (hS : s.heap.get? S = some { cls := .type "list", data := .seq #[] c₀ })
    (hR : ∀ h' tk acc' c', (∀ b o, b ≠ S → s.heap.get? b = some o → h'.get? b = some o) → h'.get? S = some { cls := .type "list", dict := none, data := .seq acc' c', slots := #[] } → ItemsOf (SignAt x) acc' x.cps.size → R (.ok (.ret res)) { s with heap := h', toks := tk }) (hn : x.cps.size ≤ sizeLine) :
    wpAny (model prog w) A.in1 (Builtin.List.listExtendWith (.ref S) (.str x t) res)
      (fun fin s' => match fin with | .done f => R (.ok f) s' | .again c' => c'.quiet = true ∧ codeAny (model prog w) A c' R s') (fun e s' => R (.error e) s') s := by
  have hSI : S ≠ s.heap.objs.size := Nat.ne_of_lt (Heap.lt_size hS)
  have hSf : S ∉ [s.heap.objs.size] := by simp only [List.mem_cons, List.not_mem_nil, or_false]; exact hSI
  unfold Builtin.List.listExtendWith
  refine wpAny_bind (wpAny_of_eq (show typeOf (.str x t) = pure (.type "str") from rfl) ?_)
  have h1 : Builtin.List.listSameRef (.ref S) (.str x t) = false := rfl
  simp only [h1, show (Value.type "str" == Value.type "list") = false by decide, show (Value.type "str" == Value.type "tuple") = false by decide, Bool.or_false, Bool.false_eq_true, if_false]
  refine wpAny_bind (wpAny_pyIter_str fun oI St W0 st => ?_)
  have W := W0 A.in1 hh
  have key : ∀ (h : Heap) (c₁ tk : Nat), St 0 h → (∀ b o, b ≠ S → s.heap.get? b = some o → h.get? b = some o) →
      h.get? S = some { cls := .type "list", data := .seq #[] c₁ } → codeAny (model prog w) A (.builtin "list.extend.loop" ⟨[.ref S, .ref s.heap.objs.size, res], []⟩) R { s with heap := h, toks := tk } := by
    intro h c₁ tk hst hk hS₁
    refine codeAny_extend_loopS W.toS hn S hSf res x.cps.size 0 _ #[] c₁ rfl (Nat.zero_le _) hst hS₁ (ItemsOf.nil _) fun s' acc' c' hm hS' hacc => ?_
    rw [Moved.eq_with hm]
    refine hR s'.heap s'.toks acc' c' (fun b o hb e => hm.heap b o (fun hmem => ?_) (hk b o hb e)) hS' hacc
    rcases List.mem_cons.mp hmem with e' | hmem
    · exact hb e'
    · exact absurd (Heap.lt_size e) (by rw [List.mem_singleton.mp hmem]; exact Nat.lt_irrefl _)
  have hS₁ := Heap.get?_push_of_some oI hS
  refine wpAny_bind (wpAny_holding (hint_str ?_))
  refine wpAny_ite_split (fun _ => ?_) (fun _ => wpAny_pure ⟨plainId_quiet PySem.F.plain_extend_loop _, key _ c₀ _ st (fun b o _ e => Heap.get?_push_of_some _ e) hS₁⟩)
  refine wpAny_bind (wpAny_rule ?_)
  refine wpAny_bind ?_
  show wpAny _ _ (updateSeq S (·.push .none) >>= fun _ => updateSeq S (·.pop)) _ _ _
  refine wpAny_bind (wpAny_updateSeq hS₁ rfl ?_)
  have hS₂ := Heap.get?_update_self (Obj.mapSeq (·.push Value.none)) hS₁ rfl
  refine wpAny_updateSeq (hz := by seq_fits) hS₂ rfl ?_
  have hS₃ := Heap.get?_update_self (Obj.mapSeq (·.pop)) hS₂ rfl
  refine wpAny_pure ⟨plainId_quiet PySem.F.plain_extend_loop _, key _ _ _ ?_ (fun b o hb e => ?_) hS₃⟩
  · refine W.frame 0 _ _ st fun b hb o e => ?_
    have hbS : b ≠ S := fun h => hSf (h ▸ hb)
    exact (Heap.get?_update_other _ _ (Ne.symm hbS)).trans ((Heap.get?_update_other _ _ (Ne.symm hbS)).trans e)
  · exact (Heap.get?_update_other _ _ (Ne.symm hb)).trans ((Heap.get?_update_other _ _ (Ne.symm hb)).trans (Heap.get?_push_of_some _ e))
theorem init_str {R : Result → Shared → Prop} (hh : A.handled = none) (S : Addr) (hS : s.heap.get? S = some { cls := .type "list", data := .seq #[] })
    (hR : ∀ h' tk acc' c', (∀ b o, b ≠ S → s.heap.get? b = some o → h'.get? b = some o) → h'.get? S = some { cls := .type "list", dict := none, data := .seq acc' c', slots := #[] } → ItemsOf (SignAt x) acc' x.cps.size → R (.ok (.ret .none)) { s with heap := h', toks := tk }) (hn : x.cps.size ≤ sizeLine) :
    wpAny (model prog w) A.in1 (Builtin.«list.__init__» ⟨[.ref S, .str x t], []⟩)
      (fun fin s' => match fin with | .done f => R (.ok f) s' | .again c' => c'.quiet = true ∧ codeAny (model prog w) A c' R s') (fun e s' => R (.error e) s') s := by
  show wpAny _ _ (do let old ← Builtin.List.listItems (.ref S); Builtin.List.listUpdate (.ref S) (fun _ => #[]); letGo old.toList.reverse; Builtin.List.listExtendWith (.ref S) (.str x t) .none) _ _ s
  refine wpAny_bind ?_
  unfold Builtin.List.listItems
  refine wpAny_bind (wpAny_seqItems hS rfl (wpAny_pure ?_))
  show wpAny _ _ (updateSeq S (fun _ => #[]) >>= fun _ => letGo (#[] : Array Value).toList.reverse >>= fun _ => Builtin.List.listExtendWith (.ref S) (.str x t) .none) _ _ s
  refine wpAny_bind (wpAny_updateSeq hS rfl ?_)
  have hS₂ := Heap.get?_update_self (Obj.mapSeq (fun _ => (#[] : Array Value))) hS rfl
  have oth : ∀ b o, b ≠ S → s.heap.get? b = some o → (s.heap.update S (Obj.mapSeq (fun _ => (#[] : Array Value)))).get? b = some o :=
    fun b o hb e => (Heap.get?_update_other _ _ (Ne.symm hb)).trans e
  refine wpAny_bind (wpAny_letGo ?_)
  refine extend_str hh S .none _ hS₂ (fun h' tk acc' c' hk hS' hacc => ?_) hn
  exact hR h' tk acc' c' (fun b o hb e => hk b o hb (oth b o hb e)) hS' hacc
theorem call_str {Q : Value → Shared → Prop} (hh : A.handled = none) (hn : x.cps.size ≤ sizeLine)
    (hQ : ∀ h' tk acc' c', (∀ b o, s.heap.get? b = some o → h'.get? b = some o) → h'.get? s.heap.objs.size = some { cls := .type "list", dict := none, data := .seq acc' c', slots := #[] } → ItemsOf (SignAt x) acc' x.cps.size → Q (.ref s.heap.objs.size) { s with heap := h', toks := tk }) :
    wpAny (model prog w) A (call (.type "list") [.str x t]) Q E s := by
  refine callType_codes (Q₁ := fun obj s₁ => obj = .ref s.heap.objs.size ∧ s₁ = { s with heap := s.heap.push { cls := .type "list", data := .seq #[] } }) PySem.F.called_list (PySem.F.typeCall_list_1 _) PySem.F.entry_list_init
    (code_list_new _ ⟨rfl, rfl⟩) fun obj s₁ h₁ => ?_
  obtain ⟨rfl, rfl⟩ := h₁
  have hS : (s.heap.push { cls := .type "list", data := .seq #[] }).get? s.heap.objs.size = some { cls := .type "list", data := .seq #[] } := Heap.get?_push_size _ rfl
  refine ⟨⟨_, hS, rfl⟩, PySem.F.args_list_init_2 _ _, init_str (A := A.in1) hh _ hS (fun h' tk acc' c' hk hS' hacc => ?_) hn⟩
  exact ⟨rfl, hQ h' tk acc' c' (fun b o e => hk b o (Nat.ne_of_lt (Heap.lt_size e)) (Heap.get?_push_of_some _ e)) hS' hacc⟩
end
end PySem.Ls
namespace Tw
open PySem PySem.Spec PyProof.Rows L2 SX Tx
section
variable {X : Cx}
def rListS : List V → Hp → VK → Prop := fun xs H Q => ∃ l : List Nat, xs = [V.str (S l)] ∧ l.length < 100000 ∧ ∀ p, H p = none → Q (.ref p) (upd H p (.lst (l.map fun c => V.str (S [c]))))
theorem cr_listS (hc : X.calm = true) : CallR X (.type "list") rListS := by
  intro pins s σ H xs us Q I r q
  obtain ⟨l, ex, hl, q⟩ := q
  subst ex
  obtain ⟨u, eu, t, rx⟩ := vals1 r
  subst eu
  subst rx
  refine PySem.Ls.call_str (I.ok.hd hc) (by rw [sizeLine_eq]; simp; omega) fun h' tk acc c' hk hD hacc => ?_
  have hsz : acc.size = l.length := by rw [hacc.1]; simp
  have hv : Vals (l.map fun c => V.str (S [c])) acc.toList := by
    have key : ∀ (m : List Nat) (ws : List Value), ws.length = m.length → (∀ (j : Nat) (v : Value), ws[j]? = some v → ∃ (c : Nat) (u : PySem.Tok), m[j]? = some c ∧ v = Value.str ⟨#[c]⟩ u) → Vals (m.map fun c => V.str (S [c])) ws := by
      intro m
      induction m with
      | nil =>
        intro ws e _
        rw [List.eq_nil_of_length_eq_zero e]
        exact .nil
      | cons c m ih =>
        intro ws e h
        cases ws with
        | nil => cases e
        | cons v ws =>
          obtain ⟨c', u, h1, h2⟩ := h 0 v rfl
          cases h1
          exact .cons ⟨u, h2⟩ (ih ws (by simpa using e) fun j v hj => h (j + 1) v hj)
    refine key l acc.toList (by rw [Array.length_toList]; exact hsz) fun j v e => ?_
    obtain ⟨c, u, h1, h2⟩ := hacc.2 j v (by rw [← Array.getElem?_toList]; exact e)
    exact ⟨c, u, by simpa using h1, h2⟩
  refine ⟨.ref s.heap.objs.size, upd H s.heap.objs.size (.lst (l.map fun c => V.str (S [c]))), I.laid (t' := tk) hk (Nat.le_refl _)
    (show ObjOk X.prog X.w _ _ _ (.lst (l.map fun c => V.str (S [c]))) from ⟨by rw [List.length_map, sizeLine_eq]; omega, acc.toList, c', hv, by rw [Array.toArray_toList]; exact hD⟩), rfl, q _ (I.hok.fresh (Nat.le_refl _))⟩
end
end Tw

/-! Kq: plain facts for the keys of queries: each once, sorted, texts of picks. -/
namespace Kq
open PySem L2 SX Tx Tc
/-! sorted lists are one -/
theorem sorted_uniq {α : Type} {R : α → α → Prop} (anti : ∀ a b, R a b → R b a → a = b) : ∀ {l m : List α}, l.Perm m → l.Pairwise R → m.Pairwise R → l = m
  | [], m, p, _, _ => (List.nil_perm.mp p).symm
  | a :: l, [], p, _, _ => absurd p.length_eq (by simp)
  | a :: l, b :: m, p, h1, h2 => by
    have h1' := List.pairwise_cons.mp h1
    have h2' := List.pairwise_cons.mp h2
    have e : a = b := by
      rcases List.mem_cons.mp (p.mem_iff.mp List.mem_cons_self) with e | ha
      · exact e
      · rcases List.mem_cons.mp (p.mem_iff.mpr List.mem_cons_self) with e | hb
        · exact e.symm
        · exact anti _ _ (h1'.1 b hb) (h2'.1 a ha)
    subst e
    rw [sorted_uniq anti (List.Perm.cons_inv p) h1'.2 h2'.2]
def leS (a b : Str) : Prop := PySem.Spec.ltCps b.cps.toList a.cps.toList = false
theorem leS_iff {a b : Str} : leS a b ↔ ¬ b.cps.toList < a.cps.toList := by
  unfold leS
  rw [PyProof.Rows.ltCps_eq, decide_eq_false_iff_not]
theorem leS_anti (a b : Str) (h1 : leS a b) (h2 : leS b a) : a = b := by
  rw [leS_iff] at h1 h2
  have e : a.cps.toList = b.cps.toList := List.le_antisymm (List.not_lt.mp h1) (List.not_lt.mp h2)
  cases a with
  | mk x =>
    cases b with
    | mk y =>
      congr 1
      exact Array.toList_inj.mp e
theorem leS_trans {a b c : Str} (h1 : leS a b) (h2 : leS b c) : leS a c := by
  rw [leS_iff] at *
  exact List.not_lt.mpr (List.le_trans (List.not_lt.mp h1) (List.not_lt.mp h2))
theorem rising_pw : ∀ {r : List Str} {p : Str}, PyProof.Rows.risingS p r = true → (p :: r).Pairwise leS
  | [], p, _ => List.pairwise_cons.mpr ⟨fun _ z => (nomatch z), .nil⟩
  | x :: r, p, h => by
    have h' : (!PySem.Spec.ltCps x.cps.toList p.cps.toList && PyProof.Rows.risingS x r) = true := h
    rw [Bool.and_eq_true, Bool.not_eq_true'] at h'
    have ih := rising_pw h'.2
    refine List.pairwise_cons.mpr ⟨fun y hy => ?_, ih⟩
    rcases List.mem_cons.mp hy with rfl | hy
    · exact h'.1
    · exact leS_trans (show leS p x from h'.1) ((List.pairwise_cons.mp ih).1 y hy)
theorem sortedS_pw {l : List Str} (h : PyProof.Rows.sortedS l = true) : l.Pairwise leS := by
  cases l with
  | nil => exact .nil
  | cons x r => exact rising_pw h
theorem sortedS_uniq {l m : List Str} (p : l.Perm m) (h1 : PyProof.Rows.sortedS l = true) (h2 : PyProof.Rows.sortedS m = true) : l = m :=
  sorted_uniq leS_anti p (sortedS_pw h1) (sortedS_pw h2)
/-! each once -/
section
variable {α : Type} [DecidableEq α]
def addN (acc : List α) (n : α) : List α := if n ∈ acc then acc else acc ++ [n]
def uq (ns : List α) : List α := ns.foldl addN []
end
/-! texts of picks -/
def tks (f : Nat → List Nat) (ps : List (List Nat × Nat)) : List Tk := ps.flatMap fun p => p.1.map Tk.ch ++ [Tk.ho (f p.2)]
end Kq

/-! Ge: the end of a law whose def tells data as text. -/
namespace Gd
open PySem PySem.Spec PyProof.Rows L2
theorem law_callG {P : Program} {w : World} {K : PySem.W.Frag} {mg mb : Str → Option Value} {k : Nat} {fa a : Addr} {fd : FuncData} {x : Str} {sp : Sp} {s : Shared} {vs : List Value} {ns : List Int}
    (kin : K.In s.heap) (gm : s.heap.Ns mainGlobals mg) (gb : s.heap.Ns builtinsNs mb) (bb : ∀ y : Str, y ≠ "__name__" → mb y = bootBuiltins y) (lim : s.heap.NoLimit) (gen : s.gens = #[])
    (ha : s.heap.get? a = some { cls := .type "list", data := .seq vs.toArray }) (hi : IntsAre vs ns) (hl : ns.length ≤ sizeLine) (room : Room k callerA)
    (F : ∀ base : Heap, K.In base → base.Ns mainGlobals mg → FnG P w K mg base CX0 k fa fd [x] sp) (bind : ∀ (t : Shared) (u : Value), BindsTo t fd ⟨[u], []⟩ [(x, u)])
    (told : ∀ H : Hp, Only H → SqL K H a (ns.map V.int) → sp [.ref a] H (fun v _ => v = .bl true) fun _ _ _ => False) :
    codeAny (model P w) callerA (.call (.ref fa) ⟨[.ref a], []⟩) (fun r t => r = .ok (.ret (.bool true)) ∧ OldK s.heap t.heap ∧ t.os = s.os ∧ AllBare t.gens) s := by
  have rel := vals_ints hi
  have len := hi.length
  -- H knows of nothing but the script
  have main : ∀ H : Hp, Only H → SqL K H a (ns.map V.int) → HOk P w H s.heap → (∀ b, b ≠ a → H b = none) → (∀ u, H a = some u → K.lookup a = none) →
      codeAny (model P w) callerA (.call (.ref fa) ⟨[.ref a], []⟩) (fun r t => r = .ok (.ret (.bool true)) ∧ OldK s.heap t.heap ∧ t.os = s.os ∧ AllBare t.gens) s := by
    intro H only seq ok none_at free
    have ns_to : ∀ {b : Addr} {m : Str → Option Value}, s.heap.Ns b m → (hidT s.heap H).Ns b m := by
      rintro b m ⟨o, es, ep, e, d, r⟩
      refine ⟨o, es, ep, hidT_get e (none_at b fun z => ?_), d, r⟩
      subst z
      rw [ha] at e
      obtain rfl := Option.some.inj e
      exact absurd (show Data.seq vs.toArray 0 = Data.dict es ep from d) (fun z => nomatch z)
    have kb : K.In (hidT s.heap H) := fun b o e => hidT_get (kin b o e) <| by
      by_cases hb : b = a
      · subst hb
        cases h : H b with
        | none => rfl
        | some u => exact absurd ((free u h).symm.trans e) (fun z => nomatch z)
      · exact none_at b hb
    obtain ⟨mc, l1, l2⟩ := lim
    have env : Env0 P w K mg (hidT s.heap H) callerA [] s H := { frames := rfl, mod := ⟨kb, ns_to gm, ⟨mb, ns_to gb, bb⟩, ⟨mc, ns_to l1, l2⟩⟩, bs := fun _ _ z => of_hidT z, bsz := Nat.le_of_eq (hidT_size _ _), funs := trivial, frf := fun _ z => (nomatch z), hok := ok, bare := .of_eq gen }
    refine codeAny_mono ((F _ kb (ns_to gm)).runG callerA [] s H ⟨[.ref a], []⟩ [.ref a] [.ref a] _ _ room rfl env (bind s (.ref a)) (.cons rfl .nil) (told H only seq)) fun r t h => ?_
    match r, h with
    | .ok (.ret u), ⟨v, H', os, bare, un, ok', ru, q⟩ =>
      have q : v = .bl true := q
      subst q
      have ru : u = Value.bool true := ru
      subst ru
      refine ⟨rfl, OldK.of_keep fun b o e => ?_, os, bare⟩
      rcases only b with h0 | ⟨ob, xs, h1⟩
      · exact un.keep b o e h0 (fun z => nomatch z) (fun z => nomatch z)
      · have a1 := (ok b _ h1).1
        have a2 := (ok' b _ (un.frzs b ob _ h1)).1
        exact a2.trans (a1.symm.trans e)
  cases look : K.lookup a with
  | some o =>
    have e := kin a o look
    rw [ha] at e
    obtain rfl := Option.some.inj e
    refine main (fun _ => none) (fun _ => .inl rfl) (.inr ⟨_, vs.toArray, _, look, rfl, rfl, rfl, by rw [List.size_toArray, len]; exact hl, by simpa using rel⟩) (fun b u z => (nomatch z)) (fun _ _ => rfl) fun u z => (nomatch z)
  | none =>
    let o1 : HO := .frz { cls := .type "list", data := .seq vs.toArray } (.lst (ns.map V.int))
    have at_a : upd (fun _ => none) a o1 a = some o1 := upd_same
    have off : ∀ b, b ≠ a → upd (fun _ => none) a o1 b = none := fun b hb => upd_ne hb
    refine main (upd (fun _ => none) a o1) (fun b => ?_) (.inl (.inr ⟨_, at_a⟩)) (fun b u z => ?_) off fun u _ => look
    · by_cases hb : b = a
      · rw [hb]
        exact .inr ⟨_, _, at_a⟩
      · exact .inl (off b hb)
    · by_cases hb : b = a
      · subst hb
        rw [at_a] at z
        obtain rfl := Option.some.inj z
        exact ⟨ha, by rw [List.length_map]; exact hl, vs, _, rel, ha⟩
      · rw [off b hb] at z
        cases z
theorem walk_ofG {l : PySem.W.OpenLaw} {n k : Nat} {q : Program} {loose : List Str} {XP : (Str → Option Value) → Heap → Prop} {YP : World → Heap → Prop} {d : DefRec} {K : Params → PySem.W.Frag} {sp : World → Sp} {x : Str}
    (most : l.most = some n) (fits : n ≤ sizeLine) (nodef : d.params.defaults = []) (room : Room k callerA) (hY : ∀ (w : World) (h : Heap), YP w h → (K w.params).In h)
    (F : ∀ (w : World) (mg : Str → Option Value) (fa : Addr) (h : Heap), (K w.params).In h → h.Ns mainGlobals mg → mg d.name = some (.ref fa) →
      ∃ fd : FuncData, (∀ (s : Shared) (u : Value), BindsTo s fd ⟨[u], []⟩ [(x, u)]) ∧ ∀ base : Heap, (K w.params).In base → base.Ns mainGlobals mg → FnG l.prog w (K w.params) mg base CX0 k fa fd [x] (sp w))
    (told : ∀ (w : World) (H : Hp) (a : Addr) (ns : List Int), ns.length ≤ n → Only H → SqL (K w.params) H a (ns.map V.int) → sp w [.ref a] H (fun v _ => v = .bl true) fun _ _ _ => False) :
    PySem.W.WalkO q loose XP YP l.row.toRowW d [] (fun f vs => PySem.call f vs) := by
  refine Att.attach_call most nodef fun w s₀ s₁ mg mb fa o pm cd doc a vs ns G Y _ _ _ hmg hobj hints hlen hg => ?_
  have kin := hY w _ Y
  obtain ⟨fd, hb, hF⟩ := F w mg fa _ kin G.T.g hmg
  exact law_callG kin G.T.g G.T.b G.T.builtins G.T.nolimit hg hobj hints (Nat.le_trans hlen fits) room hF hb fun H hO hS => told w H a ns hlen hO hS
end Gd

/-! Oe: x == y by x's own __eq__, y anything that is told here, either answer. -/
namespace Oe
open PySem PySem.Spec PyProof.Rows L2
inductive NF (K : PySem.W.Frag) (C : Addr) (H : Hp) : V → Prop
  | int (i : Int) : PySem.W.notFirst K C (.type "int") = true → NF K C H (.int i)
  | str (z : Str) : PySem.W.notFirst K C (.type "str") = true → NF K C H (.str z)
  | tup {b : Addr} {xs : List V} : H b = some (.tup xs) → PySem.W.notFirst K C (.type "tuple") = true → NF K C H (.ref b)
  | lst {b : Addr} {xs : List V} : H b = some (.lst xs) → PySem.W.notFirst K C (.type "list") = true → NF K C H (.ref b)
  | ins {b dy : Addr} {gs : List (Str × V)} : H b = some (.ins C dy gs) → NF K C H (.ref b)
section
variable {X : Cx} {CX : CXT} {k : Nat} {f C : Addr} {fd : FuncData} {ps : List Str} {sp : Sp} {E : XK}
theorem NF.looks {M : Model} {pins : List (Addr × Obj)} {σ : L2.St} {H : Hp} {s : Shared} {y : V} {u : Value} (I : Inv X pins σ H s) (h : NF X.K C H y) (ru : RelV y u) : ∃ tb, PySem.W.Looks M s.heap (typeOf u) tb ∧ PySem.W.notFirst X.K C tb = true := by
  cases h with
  | int i n =>
    obtain ⟨t, rfl⟩ := ru
    exact ⟨_, PySem.W.Looks.of_pure rfl, n⟩
  | str z n =>
    obtain ⟨t, rfl⟩ := ru
    exact ⟨_, PySem.W.Looks.of_pure rfl, n⟩
  | @tup b xs e n =>
    cases ru
    obtain ⟨_, _, _, o, h1, h2, _⟩ := I.hok b _ e
    exact ⟨_, fun A Q E s k q => wpAny_typeOf_ref (k _ _ h1) (by rw [h2]; exact q), n⟩
  | @lst b xs e n =>
    cases ru
    obtain ⟨_, _, m, _, h1⟩ := I.hok b _ e
    exact ⟨_, fun A Q E s k q => wpAny_typeOf_ref (k _ _ h1) q, n⟩
  | @ins b dy gs e =>
    cases ru
    obtain ⟨mB, J, _⟩ := ins_get I.hok e
    obtain ⟨od, J, _⟩ := J.look
    exact ⟨_, J.type, by simp [PySem.W.notFirst]⟩
def rOwnEq (K : PySem.W.Frag) (C : Addr) (sp : Sp) (E : XK) : R2 := fun x y H Q => ∃ a dx fs, x = .ref a ∧ H a = some (.ins C dx fs) ∧ NF K C H y ∧ sp [x, y] H (fun v H' => ∃ b, v = .bl b ∧ Q (.bl b) H') E
theorem op_ownEq (F : FnOk X.prog X.w X.K X.mg X.base CX k f fd ps sp) (hr : Room k X.A) (hm : Meth X.K C "__eq__" f) (hb : Binds X.K fd ps []) (hx : Passes CX X E) : OpR X (compareOp .Eq) (rOwnEq X.K C sp E) := by
  intro pins s σ H x y v u Q I rx ry h
  obtain ⟨a, dx, fs, rfl, ha, nf, q⟩ := h
  have r2 : Vals [V.ref a, y] [v, u] := .cons rx (.cons ry .nil)
  cases rx
  obtain ⟨mA, J, _⟩ := ins_get I.hok ha
  obtain ⟨od, J, _⟩ := J.look
  obtain ⟨m, hF⟩ := I.fr
  obtain ⟨tb, lk, nn⟩ := nf.looks (M := model X.prog X.w) I ry
  have un := hr.units
  show wpAny (model X.prog X.w) X.A (richCompare .Eq (.ref a) u) (EP X pins σ Q) X.xe s
  refine PySem.W.cmp_K (op := .Eq) (tb := tb) (by omega) hF I.ok.mod.kin J lk nn hm.at_ hm.fn ?_
  refine wpAny_mono (run_fn F hr hb .nil hx I r2 q) (fun z s' ⟨v', H', I', rz, b, ev, q'⟩ => ?_) fun _ _ z => z
  subst ev
  cases rz
  exact ⟨.bl b, H', I', rfl, q'⟩
theorem c_ownEq {K : PySem.W.Frag} {a dx : Addr} {fs : List (Str × V)} {y : V} {H : Hp} {Q : VK} (ha : H a = some (.ins C dx fs)) (n : NF K C H y) (q : sp [.ref a, y] H (fun v H' => ∃ b, v = .bl b ∧ Q (.bl b) H') E) : rOwnEq K C sp E (.ref a) y H Q := ⟨a, dx, fs, rfl, ha, n, q⟩
end
end Oe

/-! Es: backward steps of the readings of texts. -/
namespace Es
open PySem L2
section
variable {σ : L2.St} {H : Hp} {Q : VK} {ts : List TE} {acc y : Str} {K : PySem.W.Frag} {te to : TE}
def jsL (ts : List TE) (acc : Str) (σ : L2.St) (R : Str → Hp → Prop) : VK := fun x H1 => ∃ y : Str, x = .str y ∧ (acc ++ y).length ≤ sizeLine ∧ tJs ts (acc ++ y) σ H1 R
theorem js_nil {R : Str → Hp → Prop} (q : R acc H) : tJs [] acc σ H R := q
theorem js_cons {t : TE} {R : Str → Hp → Prop} (h : t σ H (jsL ts acc σ R)) : tJs (t :: ts) acc σ H R := h
theorem js_leaf {R : Str → Hp → Prop} (hz : (acc ++ y).length ≤ sizeLine) (q : tJs ts (acc ++ y) σ H R) : jsL ts acc σ R (.str y) H := ⟨y, rfl, hz, q⟩
def fmL (Q : VK) : VK := fun x H1 => (∃ y : Str, x = .str y ∧ y.length ≤ sizeLine ∧ Q (.str y) H1) ∨ ∃ i : Int, x = .int i ∧ i.natAbs.log2 < 1920 ∧ Q (.str (toString i)) H1
theorem w_fmt (h : te σ H (fmL Q)) : tFmt te σ H Q := h
theorem fm_str (hz : y.length ≤ sizeLine) (q : Q (.str y) H) : fmL Q (.str y) H := .inl ⟨y, rfl, hz, q⟩
theorem fm_int {i : Int} (hz : i.natAbs.log2 < 1920) (q : Q (.str (Str.ofString (toString i))) H) : fmL Q (.int i) H := .inr ⟨i, rfl, hz, q⟩
def fdL (K : PySem.W.Frag) (Q : VK) : VK := fun x H1 => ∃ (a : Addr) (d : PyData), x = .ref a ∧ Dp K H1 (.ref a) d ∧ d.showable = true ∧ d.hasDict = false ∧ d.depth ≤ 64 ∧ d.shown.length ≤ sizeLine ∧ Q (.str d.shown) H1
theorem w_fmtD (h : te σ H (fdL K Q)) : Gd.tFmtD K te σ H Q := h
def jnL (K : PySem.W.Frag) (y : Str) (Q : VK) : VK := fun x H => ∃ a p, ∃ ys : List Str, V.str y = .str a ∧ [x] = [.ref p] ∧ (SqL K H p (ys.map V.str) ∨ SqT K H p (ys.map V.str)) ∧ (ys.map (·.length)).sum + ys.length * a.length ≤ 16777216 ∧ Q (.str (Txt.join a ys)) H
/-- 'sep'.join(xs) -/
theorem w_join (h : te σ H (jnL K y Q)) : tM1 (fun x xs H Q => ∃ a p, ∃ ys : List Str, x = .str a ∧ xs = [.ref p] ∧ (SqL K H p (ys.map V.str) ∨ SqT K H p (ys.map V.str)) ∧ (ys.map (·.length)).sum + ys.length * a.length ≤ 16777216 ∧ Q (.str (Txt.join a ys)) H) (tC (.str y)) te σ H Q := ⟨⟨_, rfl⟩, h⟩
theorem jn_leaf {a : Str} {p : Addr} {ys : List Str} (hs : SqL K H p (ys.map V.str) ∨ SqT K H p (ys.map V.str)) (hz : (ys.map (·.length)).sum + ys.length * a.length ≤ 16777216) (q : Q (.str (Txt.join a ys)) H) : jnL K a Q (.ref p) H := ⟨a, p, ys, rfl, rfl, hs, hz, q⟩
def rAddS : R2 := fun x y H Q => ∃ i j, x = .str i ∧ y = .str j ∧ i.length + j.length ≤ sizeLine ∧ Q (.str (i ++ j)) H
theorem op_addS {X : Cx} : OpR X (binaryOp .Add) rAddS := op_add_str
theorem c_addS {i j : Str} (hz : i.length + j.length ≤ sizeLine) (q : Q (.str (i ++ j)) H) : rAddS (.str i) (.str j) H Q := ⟨i, j, rfl, rfl, hz, q⟩
def rStrI : List V → Hp → VK → Prop := fun xs H Q => ∃ i, xs = [V.int i] ∧ i.natAbs.log2 < 1920 ∧ Q (.str (toString i)) H
theorem cr_strI {X : Cx} : CallR X (.type "str") rStrI := call_str_int
theorem c_strI {i : Int} (hz : i.natAbs.log2 < 1920) (q : Q (.str (Str.ofString (toString i))) H) : rStrI [.int i] H Q := ⟨i, rfl, hz, q⟩
/-- 'a' if t else 'b' -/
theorem w_ifSS {t : TT} {a b : Str} (h : t σ H fun c H1 => Q (.str (if c = true then a else b)) H1) : tIf t (tC (.str a)) (tC (.str b)) σ H Q := by
  have e : (fun (c : Bool) (H1 : Hp) => Q (.str (if c = true then a else b)) H1) = fun c H1 => if c = true then tC (.str a) σ H1 Q else tC (.str b) σ H1 Q := by
    funext c H1
    cases c <;> rfl
  rw [e] at h
  exact h
end
end Es

/-! Rp: data that repr shows, with sizes. -/
namespace Rp
open PySem PySem.Spec PyProof.Rows L2 SX
structure Ok (k N : Nat) (d : PyData) : Prop where
  sh : d.showable = true
  nd : d.hasDict = false
  dp : d.depth ≤ k
  ls : d.leavesShort 200 = true
  wt : d.weight ≤ N
theorem Ok.mono {k k' N N' : Nat} {d : PyData} (h : Ok k N d) (hk : k ≤ k') (hN : N ≤ N') : Ok k' N' d := ⟨h.sh, h.nd, Nat.le_trans h.dp hk, h.ls, Nat.le_trans h.wt hN⟩
theorem Ok.int {i : Int} (h : i.natAbs < 10 ^ 40) : Ok 0 200 (.int i) := by
  have h2 : i.natAbs < 2 ^ 134 := Nat.lt_of_lt_of_le h (by decide +kernel)
  have hl : i.natAbs.log2 < 134 := by
    by_cases z : i.natAbs = 0
    · rw [z]
      decide
    · exact (Nat.log2_lt z).mpr h2
  refine ⟨?_, rfl, Nat.le_refl _, ?_, ?_⟩
  · simp only [PyData.showable]
    exact decide_eq_true (by omega)
  · simp only [PyData.leavesShort, PyData.shown]
    refine decide_eq_true ?_
    show (Str.ofString (toString i)).length ≤ 200
    rw [PySem.ofString_length]
    exact Nat.le_trans (int_text_length_le10 (k := 40) (by decide) h) (by decide)
  · simp only [PyData.weight]
    split <;> omega
theorem Ok.str {l : List Nat} (h : ∀ c ∈ l, c < 16 ^ 8) : Ok 0 l.length (.str (S l)) := by
  refine ⟨rfl, rfl, Nat.le_refl _, ?_, ?_⟩
  · simp only [PyData.leavesShort, List.all_eq_true, decide_eq_true_eq]
    exact h
  · simp only [PyData.weight]
    show l.toArray.size ≤ _
    rw [List.size_toArray]
    exact Nat.le_refl _
theorem all_ok {k N : Nat} : ∀ {ds : List PyData}, (∀ d ∈ ds, Ok k N d) → PyData.showableAll ds = true ∧ PyData.hasDictAll ds = false ∧ PyData.depthAll ds ≤ k ∧ PyData.leavesShortAll 200 ds = true ∧ PyData.weightAll ds ≤ ds.length * (N + 1)
  | [], _ => ⟨by simp only [PyData.showableAll], by simp only [PyData.hasDictAll], by simp only [PyData.depthAll]; omega, by simp only [PyData.leavesShortAll], by simp only [PyData.weightAll]; omega⟩
  | d :: ds, h => by
    have h1 := h d List.mem_cons_self
    obtain ⟨a1, a2, a3, a4, a5⟩ := all_ok (ds := ds) fun x hx => h x (List.mem_cons_of_mem _ hx)
    have w := h1.wt
    have dp := h1.dp
    refine ⟨?_, ?_, ?_, ?_, ?_⟩
    · simp only [PyData.showableAll, h1.sh, a1, Bool.and_self]
    · simp only [PyData.hasDictAll, h1.nd, a2, Bool.or_self]
    · simp only [PyData.depthAll]
      omega
    · simp only [PyData.leavesShortAll, h1.ls, a4, Bool.and_self]
    · simp only [PyData.weightAll, List.length_cons, Nat.succ_mul]
      omega
theorem Ok.list {k N : Nat} {ds : List PyData} (h : ∀ d ∈ ds, Ok k N d) : Ok (k + 1) (ds.length * (N + 1)) (.list ds) := by
  obtain ⟨a1, a2, a3, a4, a5⟩ := all_ok h
  exact ⟨by simp only [PyData.showable]; exact a1, by simp only [PyData.hasDict]; exact a2, by simp only [PyData.depth]; omega, by simp only [PyData.leavesShort]; exact a4, by simp only [PyData.weight]; exact a5⟩
theorem Ok.tuple {k N : Nat} {ds : List PyData} (h : ∀ d ∈ ds, Ok k N d) : Ok (k + 1) (ds.length * (N + 1)) (.tuple ds) := by
  obtain ⟨a1, a2, a3, a4, a5⟩ := all_ok h
  exact ⟨by simp only [PyData.showable]; exact a1, by simp only [PyData.hasDict]; exact a2, by simp only [PyData.depth]; omega, by simp only [PyData.leavesShort]; exact a4, by simp only [PyData.weight]; exact a5⟩
theorem c_repr {K : PySem.W.Frag} {H : Hp} {a : Addr} {d : PyData} {Q : VK} {N : Nat} (hd : Dp K H (.ref a) d) (ok : Ok 60 N d) (hN : N ≤ 80000) (q : Q (.str d.shown) H) : Gd.rRepr K [V.ref a] H Q := by
  refine ⟨a, d, rfl, hd, ok.sh, ok.nd, Nat.le_trans ok.dp (by decide), ?_, q⟩
  have := PyData.shown_le 200 (by decide) d ok.ls
  have w := ok.wt
  rw [sizeLine_eq]
  omega
/-! keys -/
def dK : Key → PyData | .inl i => .int i | .inr s => .str s
def KeyS (k : Key) : Prop := (∃ i : Int, k = .inl i ∧ i.natAbs < 1000000) ∨ ∃ l : List Nat, k = .inr (S l) ∧ l.length ≤ 200 ∧ ∀ c ∈ l, c < 16 ^ 8
theorem KeyS.ok {k : Key} (h : KeyS k) : Ok 0 200 (dK k) := by
  rcases h with ⟨i, rfl, hi⟩ | ⟨l, rfl, hl, hc⟩
  · exact .int (Nat.lt_trans hi (by decide +kernel))
  · exact (Ok.str hc).mono (Nat.le_refl _) hl
end Rp

/-! Tw: readings for texts: dead statements, constants of the module, walks over a text, steps. -/
namespace Tw
open PySem PySem.Spec PyProof.Rows L2 SX Tx
section
variable {X : Cx}
theorem ps_dead {st : Stmt} : PS X st (fun _ _ _ => False) := ⟨fun _ _ _ _ _ _ h => h.elim⟩
theorem pe_globS {x : Str} {v : V} {pos : Pos} (hg : Gl X x) (hm : ∃ u, X.mg x = some u ∧ RelV v u) (hd : (x == ("__debug__" : Str)) = false := by decide) : PE X (.Name x pos) (tC v) := by
  obtain ⟨u, h, r⟩ := hm
  exact pe_glob hg h r hd
def rLenS : List V → Hp → VK → Prop := fun xs H Q => ∃ z, xs = [V.str z] ∧ z.length ≤ sizeLine ∧ Q (.int z.length) H
theorem cr_lenS : CallR X (.builtin "len") rLenS := call_len_str
def rOrd : List V → Hp → VK → Prop := fun xs H Q => ∃ x : Str, xs = [V.str x] ∧ x.length = 1 ∧ Q (.int (x.cps.getD 0 0 : Nat)) H
theorem cr_ord : CallR X (.builtin "ord") rOrd := call_ord
def rLeS : R2 := fun x y H Q => ∃ i j : Str, x = .str i ∧ y = .str j ∧ Q (.bl (!decide (j.cps.toList < i.cps.toList))) H
theorem op_leS : OpR X (compareOp .LtE) rLeS := op_le_str
def rInS : R2 := fun x y H Q => ∃ i j : Str, x = .str i ∧ y = .str j ∧ Q (.bl (!(Builtin.Str.occurrences j i 0 j.length 1).isEmpty)) H
theorem op_inS : OpR X (compareOp .In) rInS := op_in_str
def rNotInS : R2 := fun x y H Q => ∃ i j : Str, x = .str i ∧ y = .str j ∧ Q (.bl (!(!(Builtin.Str.occurrences j i 0 j.length 1).isEmpty))) H
theorem op_notInS : OpR X (compareOp .NotIn) rNotInS := op_notIn_str
def rRs : V → List V → Hp → VK → Prop := fun x xs H Q => ∃ a b : Str, x = .str a ∧ xs = [.str b] ∧ a.length ≤ sizeLine ∧ Q (.str (Txt.rstripChars a b)) H
theorem mt_rs : MtR X "str.rstrip" rRs := mt_rstripChars
def rF3 : V → List V → Hp → VK → Prop := fun x xs H Q => ∃ (a b : Str) (i : Int), x = .str a ∧ xs = [.str b, .int i] ∧ Q (.int (Txt.find3 a b i)) H
theorem mt_f3 : MtR X "str.find" rF3 := mt_find3
end
section
variable {σ σ' : L2.St} {H H' : Hp} {Q : VK} {K : PySem.W.Frag} {p : Addr} {te : TE} {l m a b : List Nat} {c d : Nat}
theorem len_ok (h : l.length < 100000) : (S l).length ≤ sizeLine := by
  rw [S_len, sizeLine_eq]
  omega
theorem c_lenS (h : l.length < 100000) (q : Q (.int (l.length : Nat)) H) : rLenS [.str (S l)] H Q := ⟨_, rfl, len_ok h, by rw [S_len]; exact q⟩
theorem c_ord (q : Q (.int (c : Nat)) H) : rOrd [.str (S [c])] H Q := ⟨_, rfl, rfl, q⟩
theorem le_one (c d : Nat) : (!decide ((S [d]).cps.toList < (S [c]).cps.toList)) = decide (c ≤ d) := by
  have e : decide ((S [d]).cps.toList < (S [c]).cps.toList) = decide (d < c) := decide_eq_decide.mpr (iff_of_eq (one_lt d c))
  rw [e, ← decide_not]
  exact decide_eq_decide.mpr Nat.not_lt
theorem c_leS (q : Q (.bl (decide (c ≤ d))) H) : rLeS (.str (S [c])) (.str (S [d])) H Q := ⟨_, _, rfl, rfl, by rw [le_one]; exact q⟩
theorem c_inS (q : Q (.bl (decide (c ∈ l))) H) : rInS (.str (S [c])) (.str (S l)) H Q := ⟨_, _, rfl, rfl, by rw [in_one]; exact q⟩
theorem c_notInS (q : Q (.bl (!decide (c ∈ l))) H) : rNotInS (.str (S [c])) (.str (S l)) H Q := ⟨_, _, rfl, rfl, by rw [in_one]; exact q⟩
theorem c_leA (q : Q (.bl (decide (97 ≤ d))) H) : rLeS (.str "a") (.str (S [d])) H Q := by
  rw [show ("a" : Str) = S [97] by decide +kernel]
  exact c_leS q
theorem c_leZ (q : Q (.bl (decide (c ≤ 122))) H) : rLeS (.str (S [c])) (.str "z") H Q := by
  rw [show ("z" : Str) = S [122] by decide +kernel]
  exact c_leS q
theorem c_inDig (q : Q (.bl (dig c)) H) : rInS (.str (S [c])) (.str "0123456789") H Q := by
  rw [digits10_S]
  refine c_inS ?_
  rw [mem_digits10]
  exact q
theorem c_notInBr (q : Q (.bl (!decide (c = 123 ∨ c = 125))) H) : rNotInS (.str (S [c])) (.str "{}") H Q := by
  rw [show ("{}" : Str) = S [123, 125] by decide +kernel]
  refine c_notInS ?_
  rw [show decide (c ∈ [123, 125]) = decide (c = 123 ∨ c = 125) from decide_eq_decide.mpr (by simp)]
  exact q
theorem c_all {bs : List Bool} (h : H p = some (.lst (bs.map V.bl))) (q : Q (.bl (bs.all id)) H) : rAll K [V.ref p] H Q := ⟨p, bs, rfl, SqL.of h, q⟩
theorem all_map {f : Nat → Bool} (h : H p = some (.lst (l.map fun c => V.bl (f c)))) (q : Q (.bl (l.all f)) H) : rAll K [V.ref p] H Q :=
  c_all (bs := l.map f) (by rw [h, List.map_map]; rfl) (by rw [List.all_map]; exact q)
theorem c_rs (h : l.length < 100000) (q : Q (.str (S (stem l))) H) : rRs (.str (S l)) [.str "0123456789"] H Q := ⟨_, _, rfl, rfl, len_ok h, by rw [digits10_S, rstrip_digits]; exact q⟩
theorem c_ixS {i : Int} {n : Nat} (h : l.length < 100000) (hi : i = (n : Int)) (hc : l[n]? = some c) (q : Q (.str (S [c])) H) : rIxS (.str (S l)) (.int i) H Q := by
  subst hi
  exact ⟨_, _, c, rfl, rfl, len_ok h, atI_nat hc, q⟩
theorem c_slS {i j : Option Int} (h : l.length < 100000) (e : Txt.slice (S l) i j = S m) (q : Q (.str (S m)) H) : rSlS (.str (S l)) i j H Q := ⟨_, rfl, len_ok h, by rw [C8.cutS_slice, e]; exact q⟩
theorem c_addSS (h : a.length + b.length < 100000) (q : Q (.str (S (a ++ b))) H) : Es.rAddS (.str (S a)) (.str (S b)) H Q := ⟨_, _, rfl, rfl, by rw [S_len, S_len, sizeLine_eq]; omega, by rw [S_cat]; exact q⟩
def strLeaf (R : It → Hp → Prop) : VK := fun v H1 => ∃ x : Str, v = .str x ∧ R (Its x) H1
theorem w_iStr {ti : TE} {R : It → Hp → Prop} (h : ti σ H (strLeaf R)) : iStr ti σ H R := h
theorem c_iStr {R : It → Hp → Prop} {x : Str} (q : R (Its x) H) : strLeaf R (.str x) H := ⟨x, rfl, q⟩
theorem w_tyS {x : Str} {A : Prop} (q : A) : tyV K "str" (.str x) H ∧ A := ⟨rfl, q⟩
theorem br_nt {A B : Prop} (h : B) : if (!true) = true then A else B := h
theorem br_nf {A B : Prop} (h : A) : if (!false) = true then A else B := h
/-! isinstance of plain values -/
theorem isi_str {x : Str} {n : String} {r : Bool} (e : kitB "str" n = some r) (q : Q (.bl r) H) : rIsi K [.str x, .ty n] H Q := Eg.c_isi (.ty _) (.base (.str x)) (kit_ty e) q
end
/-- [F z for z in text] -/
theorem map_str {σ : L2.St} {H : Hp} {l : List Nat} {j : Nat} {ti te : TE} {F : Nat → V} {Q : VK} (hsz : l.length < 100000)
    (hi : ∀ R : VK, R (.str (S l)) H → ti σ H R)
    (elt : ∀ (H' : Hp) (z : Nat) (R : VK), Same H H' → z ∈ l → R (F z) H' → te ((wipe σ [j]).set j (some (.str (S [z])))) H' R)
    (done : ∀ (D : Addr) (H' : Hp), H D = none → Same H H' → H' D = some (.lst (l.map F)) → Q (.ref D) H') : tLc (iStr ti) (gName j) tYes te [j] σ H Q := by
  refine Eg.w_lc (w_iStr (hi _ (c_iStr ?_)))
  intro D hD
  refine lc_it (walk_str (z := S l)) (fun n H' => Same H H' ∧ H' D = some (.lst ((l.take n).map F))) ⟨Eg.same_new (Same.refl _) hD, upd_same⟩ (fun n H' _ h => trivial) ?_ ?_
  · rintro n x _ H1 hn ⟨s1, h2⟩ ⟨rfl, c, hc, rfl⟩
    have hc : l[n]? = some c := by simpa using hc
    obtain ⟨hlt, he⟩ := List.getElem?_eq_some_iff.mp hc
    refine Eg.w_gN (Eg.w_wipe ?_ (Eg.w_yes (iteT (elt H1 c _ s1 (List.mem_of_getElem? hc) ⟨_, h2, ?_, Eg.same_mut s1 hD, ?_⟩))))
    · show (((σ.set j none).set j (some (V.str (S [c])))).set j none) = σ.set j none
      rw [List.set_set, List.set_set]
    · rw [List.length_map, List.length_take, sizeLine_eq]
      omega
    · rw [upd_same, List.take_succ_eq_append_getElem hlt, he]
      simp
  · rintro H1 ⟨s1, h2⟩
    rw [show (S l).cps.size = l.length by simp, List.take_length] at h2
    exact done D H1 hD s1 h2
end Tw
/-! xs == [], whatever stands in xs -/
namespace Tw
open PySem PySem.Spec PyProof.Rows L2 SX Tx
def rEmp (neg : Bool) : R2 := fun x y H Q => ∃ (a b : Addr) (xs : List V), x = .ref a ∧ y = .ref b ∧ H a = some (.lst xs) ∧ H b = some (.lst []) ∧ Q (.bl (if neg then !xs.isEmpty else xs.isEmpty)) H
section
variable {X : Cx}
theorem lst_is {pins : List (Addr × Obj)} {σ : L2.St} {H : Hp} {s : Shared} {a : Addr} {xs : List V} (I : Inv X pins σ H s) (h : H a = some (.lst xs)) : ∃ its : Array Value, s.heap.IsList a its ∧ its.size = xs.length := by
  obtain ⟨its, n, m, r, h1⟩ := (show ObjOk X.prog X.w H s.heap a (.lst xs) from I.hok a _ h)
  exact ⟨_, ⟨_, h1, rfl, _, rfl⟩, by simpa using (Paired.length r).symm⟩
theorem op_neE (hu : X.A.units < cLine) : OpR X (compareOp .NotEq) (rEmp true) := by
  intro pins s σ H x y v u Q I rx ry h
  obtain ⟨a, b, xs, rfl, rfl, ha, hb, q⟩ := h
  cases (show v = Value.ref a from rx)
  cases (show u = Value.ref b from ry)
  obtain ⟨i1, l1, e1⟩ := lst_is I ha
  obtain ⟨i2, l2, e2⟩ := lst_is I hb
  cases xs with
  | nil =>
    refine SeqAt.RcNeAt.lists (e := fun _ => true) l1 l2 (by rw [e1, e2]) hu (fun j h1 _ => ?_) X.prog X.w _ _ (fin_bl I q ?_)
    · rw [e1] at h1
      exact absurd h1 (Nat.not_lt_zero _)
    · rw [e1]
      rfl
  | cons y ys =>
    exact SeqAt.RcNeAt.lists_lengths l1 l2 (by rw [e1, e2]; rfl) hu X.prog X.w _ _ (fin_bl I q rfl)
theorem op_eqE (hu : X.A.units < cLine) : OpR X (compareOp .Eq) (rEmp false) := by
  intro pins s σ H x y v u Q I rx ry h
  obtain ⟨a, b, xs, rfl, rfl, ha, hb, q⟩ := h
  cases (show v = Value.ref a from rx)
  cases (show u = Value.ref b from ry)
  obtain ⟨i1, l1, e1⟩ := lst_is I ha
  obtain ⟨i2, l2, e2⟩ := lst_is I hb
  cases xs with
  | nil =>
    refine SeqAt.RcAt.lists (e := fun _ => true) l1 l2 (by rw [e1, e2]) hu (fun j h1 _ => ?_) X.prog X.w _ _ (fin_bl I q ?_)
    · rw [e1] at h1
      exact absurd h1 (Nat.not_lt_zero _)
    · rw [e1]
      rfl
  | cons y ys =>
    exact SeqAt.RcAt.lists_lengths l1 l2 (by rw [e1, e2]; rfl) hu X.prog X.w _ _ (fin_bl I q rfl)
end
theorem c_neE {a b : Addr} {xs : List V} {H : Hp} {Q : VK} (ha : H a = some (.lst xs)) (hb : H b = some (.lst [])) (q : Q (.bl (!xs.isEmpty)) H) : rEmp true (.ref a) (.ref b) H Q := ⟨a, b, xs, rfl, rfl, ha, hb, q⟩
theorem c_eqE {a b : Addr} {xs : List V} {H : Hp} {Q : VK} (ha : H a = some (.lst xs)) (hb : H b = some (.lst [])) (q : Q (.bl xs.isEmpty) H) : rEmp false (.ref a) (.ref b) H Q := ⟨a, b, xs, rfl, rfl, ha, hb, q⟩
end Tw

/-! keys: in, sorted, dicts, int of a text -/
namespace Tw
open PySem PySem.Spec PyProof.Rows L2 SX Tx Tc
section
variable {X : Cx}
def rIntS : List V → Hp → VK → Prop := fun xs H Q => ∃ a n, xs = [V.str a] ∧ PySem.intText? a = some n ∧ a.length ≤ 640 ∧ Q (.int n) H
def rSortedIS (K : PySem.W.Frag) : List V → Hp → VK → Prop := fun xs H Q => rSorted K xs H Q ∨ rSortedS K xs H Q
end
section
variable {H : Hp} {Q : VK} {K : PySem.W.Frag} {p : Addr} {k : Key} {ks : List Key} {kvs : List (Key × V)}
theorem c_in (h : H p = some (.lst (ks.map kV))) (q : Q (.bl (decide (k ∈ ks))) H) : rIn K false (kV k) (.ref p) H Q :=
  ⟨p, _, rfl, .inl (SqL.of h), flat_kV k, all_flat ks, by rw [inV_kV]; exact q⟩
theorem c_notIn (h : H p = some (.lst (ks.map kV))) (q : Q (.bl (!decide (k ∈ ks))) H) : rIn K true (kV k) (.ref p) H Q :=
  ⟨p, _, rfl, .inl (SqL.of h), flat_kV k, all_flat ks, by rw [inV_kV]; exact q⟩
theorem dgetK (h : Rd H p (.dK kvs)) : DGet H p (kV k) (valV kvs k) := .inl ⟨kvs, k, h, rfl, rfl⟩
end
end Tw

/-! Mk: o.m(a, .., k = v), own methods with keyword-only parameters; name = {..} with keys ints or texts on one line. -/
namespace Mk
open PySem PySem.Spec PyProof.Rows L2
/-- two values and one keyword -/
def g21 {α : Type} : List α → List α → List α
  | [a, b], [c] => [a, b, c]
  | _, _ => []
def methKLeaf (C : Addr) (m : Str) (sp : Sp) (gV : List V → List V → List V) (E : XK) (t tk : TA) (σ : L2.St) (Q : VK) (x : V) (H1 : Hp) : Prop := ∃ a dx fs, x = .ref a ∧ H1 a = some (.ins C dx fs) ∧ fs.lookup m = none ∧ t σ H1 fun vs H2 => tk σ H2 fun zs H3 => sp (gV (x :: vs) zs) H3 Q E
def tMethK (C : Addr) (m : Str) (sp : Sp) (gV : List V → List V → List V) (E : XK) (ta : TE) (t tk : TA) : TE := fun σ H Q => ta σ H (methKLeaf C m sp gV E t tk σ Q)
section
variable {X : Cx} {CX : CXT} {k : Nat} {f C : Addr} {fd : FuncData} {ps ks : List Str} {sp : Sp} {E : XK} {m : Str} {apos pos : Pos} {e o : Expr} {es : List Expr} {kws : List Keyword} {ta : TE} {t tk : TA} {g : List Value → List Value → List Value} {gV : List V → List V → List V}
end
section
variable {σ : L2.St} {H : Hp} {Q : VK} {C p dx : Addr} {m : Str} {sp : Sp} {gV : List V → List V → List V} {E : XK} {ta : TE} {t tk : TA} {fs : List (Str × V)}
theorem w_methK (h : ta σ H (methKLeaf C m sp gV E t tk σ Q)) : tMethK C m sp gV E ta t tk σ H Q := h
def propLeaf (C : Addr) (sp : Sp) (dvs : List V) (E : XK) (Q : VK) (x : V) (H1 : Hp) : Prop := ∃ a dx fs, x = .ref a ∧ H1 a = some (.ins C dx fs) ∧ sp (.ref a :: dvs) H1 Q E
theorem w_prop {dvs : List V} (h : ta σ H (propLeaf C sp dvs E Q)) : tProp C sp dvs E ta σ H Q := h
theorem c_prop {dvs : List V} (h : H p = some (.ins C dx fs)) (q : sp (.ref p :: dvs) H Q E) : propLeaf C sp dvs E Q (.ref p) H := ⟨p, dx, fs, rfl, h, q⟩
end
section
variable {X : Cx}
end
/-! x.clear() of a list or a dict; tuple(xs) -/
def clrLeaf (K : PySem.W.Frag) (Q : VK) (x : V) (H1 : Hp) : Prop := ∃ a, x = .ref a ∧ ((∃ kvs, H1 a = some (.dK kvs) ∧ Q .non (upd H1 a (.dK []))) ∨ ∃ xs, H1 a = some (.lst xs) ∧ Q .non (upd H1 a (.lst [])))
def tClr (K : PySem.W.Frag) (to : TE) : TE := fun σ H Q => to σ H (clrLeaf K Q)
section
variable {X : Cx} {o : Expr} {to : TE} {apos cpos : Pos}
end
section
variable {σ : L2.St} {H : Hp} {Q : VK} {K : PySem.W.Frag} {p : Addr} {xs : List V} {ta : TE}
end
/-! x != y, both data (lists, tuples, ..) or both dicts of flat values that are alike -/
def rNeE (K : PySem.W.Frag) : R2 := fun x y H Q => rNeD K x y H Q ∨ rNeDA x y H Q
def rEqE (K : PySem.W.Frag) : R2 := fun x y H Q => rEqD K x y H Q ∨ rEqDA x y H Q
/-! len and list of a list, a tuple or a dict -/
def rLenE (K : PySem.W.Frag) : List V → Hp → VK → Prop := fun xs H Q => Eg.rLenQ K xs H Q ∨ ∃ a kvs, xs = [V.ref a] ∧ H a = some (.dK kvs) ∧ Q (.int (kvs.length : Nat)) H
def rListL (K : PySem.W.Frag) : List V → Hp → VK → Prop := fun xs H Q => ∃ p ys, xs = [V.ref p] ∧ (SqL K H p ys ∨ SqT K H p ys) ∧ ∀ l, H l = none → Q (.ref l) (upd H l (.lst ys))
def rListE (K : PySem.W.Frag) : List V → Hp → VK → Prop := fun xs H Q => rListL K xs H Q ∨ ∃ a kvs, xs = [V.ref a] ∧ H a = some (.dK kvs) ∧ ∀ p, H p = none → Q (.ref p) (upd H p (.lst (kvs.map fun kv => kV kv.1)))
theorem cr_listE {X : Cx} (hc : X.calm = true) : CallR X (.type "list") (rListE X.K) := by
  intro pins s σ H xs us Q I r h
  rcases h with h | ⟨a, kvs, e, h, q⟩
  · exact call_list_of pins s σ H xs us Q I r h
  · exact call_listD hc pins s σ H xs us Q I r ⟨a, kvs, e, .inl h, q⟩
section
variable {H : Hp} {Q : VK} {K : PySem.W.Frag} {p : Addr} {ys : List V} {kvs : List (Key × V)}
theorem c_listD (h : H p = some (.dK kvs)) (q : ∀ l, H l = none → Q (.ref l) (upd H l (.lst (kvs.map fun kv => kV kv.1)))) : rListE K [V.ref p] H Q := .inr ⟨p, kvs, rfl, h, q⟩
end
/-! displays of dicts, pair by pair -/
section
variable {σ : L2.St} {H : Hp} {tk tv : TE} {r : List (TE × TE)}
end
/-! repr of data, of None too -/
def rReprA (K : PySem.W.Frag) : List V → Hp → VK → Prop := fun xs H Q => Gd.rRepr K xs H Q ∨ (xs = [V.non] ∧ Q (.str "None") H)
end Mk

/-! Ex: several except clauses, each with a name or none, each of one class or of several; fields of the caught one, isinstance of it; own exception classes under own bases, made by an __init__ that is walked. -/
namespace Ex
open PySem PySem.Spec PyProof.Rows L2
abbrev HS := List Value × Option Nat × (Addr → Value → Option Addr → TS)
/-- what the clauses wish of an exception of the body, one after the other -/
def wHds (K : PySem.W.Frag) (Wout : WX) (D : Ends) : List HS → WX
  | [] => Wout
  | (cs, none, ts) :: r => fun cls d σ H => ∃ b, PySem.W.exmAny K cls cs = some b ∧ (b = true → ∀ a, H a = none → ts a cls d D σ H) ∧ (b = false → wHds K Wout D r cls d σ H)
  | (cs, some i, ts) :: r => fun cls d σ H => ∃ b, PySem.W.exmAny K cls cs = some b ∧
      (b = true → ∀ a, H a = none → ts a cls d { nx := fun σ' H' => D.nx (σ'.set i none) H', rt := D.rt, bk := fun σ' H' => D.bk (σ'.set i none) H', ct := fun σ' H' => D.ct (σ'.set i none) H' } (σ.set i (some (.ref a))) H) ∧ (b = false → wHds K Wout D r cls d σ H)
/-- the test of a clause: the classes that it names -/
def ExTest (X : Cx) (t : Expr) (cs : List Value) : Prop :=
  ∀ (a : Addr) (oe : Obj) (pn pins : List (Addr × Obj)) (σ : L2.St) (H : Hp) (s : Shared) (cls : Value) (b : Bool) (Q : Bool → Shared → Prop) (E : Value → Shared → Prop), Inv (X.suite a ((a, oe) :: pn)) pins σ H s → PySem.W.Looks (model X.prog X.w) s.heap (typeOf (.ref a)) cls →
    PySem.W.exmAny X.K cls cs = some b → (∀ h', (∀ q o, s.heap.get? q = some o → h'.get? q = some o) → Q b { s with heap := h' }) →
    wpAny (model X.prog X.w) (X.A.mark (some (.ref a))) (eval t X.env) (fun c s₁ => wpAny (model X.prog X.w) (X.A.mark (some (.ref a))) (excMatches (.ref a) c) Q E s₁) E s
theorem exmAny_one {K : PySem.W.Frag} {cls c : Value} {b : Bool} (h : PySem.W.exmAny K cls [c] = some b) : PySem.W.exmOne K cls c = some b := by
  obtain ⟨b1, d1, h1, h2, e⟩ := PySem.W.exmAny_cons h
  have : some false = some d1 := h2
  cases this
  rw [Bool.or_false] at e
  rw [e]
  exact h1
theorem test_one {X : Cx} {x : Str} {c : Value} {np : Pos} (hc : Names X x c) : ExTest X (.Name x np) [c] := by
  intro a oe pn pins σ H s cls b Q E S LT hb q
  have LM := PySem.W.exm_one (M := model X.prog X.w) S.kIn LT (exmAny_one hb)
  obtain ⟨hg, hdbg, hm | ⟨hm, hv, hnn⟩⟩ := hc
  · exact ld_glob (X := X.suite a ((a, oe) :: pn)) S hg hm (LM.here (q s.heap fun _ _ z => z)) hdbg
  · exact ld_blt (X := X.suite a ((a, oe) :: pn)) S hg hm hv (LM.here (q s.heap fun _ _ z => z)) hnn hdbg
inductive HdsA (X : Cx) : List ExceptHandler → List HS → Prop
  | nil : HdsA X [] []
  | plain {t : Expr} {cs : List Value} {ts : Addr → Value → Option Addr → TS} {b₀ : Stmt} {suite : List Stmt} {pos' : Pos} {hds : List ExceptHandler} {l : List HS} (ht : ExTest X t cs)
      (hsu : ∀ (a : Addr) (oe : Obj) (cls : Value) (d : Option Addr) (pn : List (Addr × Obj)), Zc cls d oe → (∃ vs, oe.data = .fields vs) → X.base.get? a = none → PSs (X.suite a ((a, oe) :: pn)) (b₀ :: suite) (ts a cls d)) (r : HdsA X hds l) :
      HdsA X (.ExceptHandler (some t) none (b₀ :: suite) pos' :: hds) ((cs, none, ts) :: l)
  | as {t : Expr} {cs : List Value} {n : Str} {i : Nat} {ts : Addr → Value → Option Addr → TS} {b₀ : Stmt} {suite : List Stmt} {pos' : Pos} {hds : List ExceptHandler} {l : List HS} (hN : X.N.Nodup) (hi : X.N[i]? = some n) (hln : X.env.kindOf n = some .local) (ht : ExTest X t cs)
      (hsu : ∀ (a : Addr) (oe : Obj) (cls : Value) (d : Option Addr) (pn : List (Addr × Obj)), Zc cls d oe → (∃ vs, oe.data = .fields vs) → X.base.get? a = none → PSs (X.suite a ((a, oe) :: pn)) (b₀ :: suite) (ts a cls d)) (r : HdsA X hds l) :
      HdsA X (.ExceptHandler (some t) (some n) (b₀ :: suite) pos' :: hds) ((cs, some i, ts) :: l)
theorem traced_keep {h h' base : Heap} {e : Addr} {Z : Obj → Prop} {fl : Value} (x : HandSPX.TracedZ h base e Z fl) (k : ∀ q o, h.get? q = some o → h'.get? q = some o) : HandSPX.TracedZ h' base e Z fl := by
  obtain ⟨oe, vs, T, oT, ts, he, hz, hd, h1, hn, hT, ht, hdT, h3⟩ := x
  exact ⟨oe, vs, T, oT, ts, k _ _ he, hz, hd, h1, hn, hT, k _ _ ht, hdT, h3⟩
theorem flying_keep {base h h' : Heap} {l : List Env} {e : Addr} {Z : Obj → Prop} (x : HandSPX.FlyingZ base l e Z h) (k : ∀ q o, h.get? q = some o → h'.get? q = some o) : HandSPX.FlyingZ base l e Z h' := by
  obtain ⟨x1, x2, x3, x4⟩ := x
  exact ⟨fun b o hb => k _ _ (x1 b o hb), x2, x3.of_keeps fun b o hb _ => ⟨o, k b _ hb, rfl⟩, traced_keep x4 k⟩
section
variable {X : Cx} {body : List Stmt} {h₀ : ExceptHandler} {hds : List ExceptHandler} {l : List HS} {pos : Pos} {tb : WX → TS} {Wout : WX}
theorem ps_try_hds (hs : X.stack = X.env :: X.outer) (hf : X.env.frame = some X.env.locals) (tk : Takes X Wout)
    (hb : ∀ (W : WX) (pn : List (Addr × Obj)) (xe : Value → Shared → Prop), Takes (X.tr pn xe) W → PassesOwn (model X.prog X.w) X.A X.env xe → PSs (X.tr pn xe) body (tb W))
    (hh : HdsA X (h₀ :: hds) l) : PS X (.Try body (h₀ :: hds) [] [] pos) (fun D σ H => tb (wHds X.K Wout D l) D σ H) := by
  refine ⟨fun pins s σ H D I h => ?_⟩
  have ok := I.ok
  have hfr : X.A.frames = some (X.env :: X.outer) := by rw [ok.frames, hs]
  refine wpAny_Try_except ?_
  refine wpAny_mono ((hb (wHds X.K Wout D l) (X.pn ++ pins) (fun e s₁ => wpAny (model X.prog X.w) X.A (noteFrame e X.env) (fun _ s₂ => wpAny (model X.prog X.w) X.A (setFlight e none) (fun _ s₃ =>
    wpAny (model X.prog X.w) X.A (handleBy e X.env (h₀ :: hds)) (SP X pins D) X.xe s₃) X.xe s₂) X.xe s₁) (fun u s' xx => ?_) PassesOwn.looking).run [] s σ H D (I.toTry _) h) (fun f s1 hsp => ?_) (fun e s1 he => he)
  · obtain ⟨a, B, sI, pins', σ', H', cls, d, rfl, J', nb, up, sky, na, os, ag, w⟩ := xx
    have J : Inv X pins σ' H' sI := J'.ofTry ok
    have sky' : Sky B (X.env :: X.outer) a (Zc cls d) X.env.locals s'.heap := by rw [← hs]; exact sky
    show wpAny (model X.prog X.w) X.A (noteFrame (.ref a) X.env) _ _ _
    refine Sky.land Zc.steady hfr hf sky' fun h3 fl3 up3 => ?_
    have notFr : ∀ {h : Heap} {o : Obj} {vs : Array Value}, h.FunFrames B (X.env :: X.outer) → h.get? a = some o → o.data = .fields vs → a ∉ frs (X.env :: X.outer) := fun {h o vs} ff e dd hm => by
      obtain ⟨_, o', e', hnf⟩ := ff.mem hm
      rw [e] at e'; cases e'
      exact hnf _ dd
    have nfr : a ∉ frs (X.env :: X.outer) := by
      obtain ⟨oe3, vs3, he3, hz3, hd3⟩ := fl3.there
      exact notFr fl3.2.2.1 he3 hd3
    have nL : a ≠ X.env.locals := fun z => nfr (List.mem_filterMap.mpr ⟨X.env, List.mem_cons_self, by rw [hf, z]⟩)
    have nF : a ∉ X.fs := fun hm => by
      obtain ⟨e, he, q⟩ := List.mem_filterMap.mp hm
      exact nfr (List.mem_filterMap.mpr ⟨e, List.mem_cons_of_mem _ he, q⟩)
    have nb0 : X.base.get? a = none := by
      have hBa : B.get? a = none := by
        rcases sky' with ⟨_, h, _⟩ | h | h
        · exact h
        · exact h.2.1
        · exact h.2.1
      cases e : X.base.get? a with
      | none => rfl
      | some o =>
        have h1 := nb a o (J.bk a o e) (by rw [hs]; exact nfr)
        rw [hBa] at h1
        cases h1
    have go : ∀ {hds' : List ExceptHandler} {l' : List HS}, HdsA X hds' l' → ∀ h3 : Heap, HandSPX.FlyingZ B (X.env :: X.outer) a (Zc cls d) h3 → s'.heap.UpToSlots h3 → wHds X.K Wout D l' cls d σ' H' →
        wpAny (model X.prog X.w) X.A (handleBy (.ref a) X.env hds') (SP X pins D) X.xe { s' with heap := h3 } := by
      intro hds' l' hk
      induction hk with
      | nil =>
        intro h3 fl3 up3 w
        refine wpAny_handleBy_nil ?_
        obtain ⟨k1, k2, k3, oe, vs, T, oT, ts', he, hz, hd, h1, hr⟩ := id fl3
        unfold PySem.passOn
        refine wpAny_bind (wpAny_field he hd h1 ?_)
        rw [if_neg (show ¬ ((Value.ref T == Value.none) = true) from by simp)]
        have fin : wpAny (model X.prog X.w) X.A (setFlight (.ref a) X.env.frame) (fun _ s4 => wpAny (model X.prog X.w) X.A (throw (.ref a) : Sem Flow) (SP X pins D) X.xe s4) X.xe { s' with heap := h3 } := by
          rw [hf]
          refine HandSPX.setFlight_upZ fl3 fun h4 hh4 up4 => wpAny_throw (tk _ _ ?_)
          exact ⟨a, B, sI, pins, σ', H', cls, d, rfl, J, nb, (up.trans up3).trans up4, .inr (.inr (by rw [hs]; exact hh4)), na, os, ag, w⟩
        first
          | exact wpAny_bind (wpAny_pure (wpAny_bind fin))
          | exact wpAny_bind fin
      | @plain t cs ts b₀ suite pos' hds2 l2 ht hsu r ih =>
        intro h3 fl3 up3 w
        obtain ⟨b, hb1, hyes, hno⟩ := w
        have J3 : Inv X pins σ' H' { s' with heap := h3 } := J.landed nb fl3.1 (up.trans up3) os ag
        obtain ⟨oe3, vs3, he3, hz3, hd3⟩ := fl3.there
        have S3 := J3.suite he3 hd3 na nL nF
        refine wpAny_handleBy_cons (codeAny_handlers_test ?_) (by intro q; cases q)
        have LT : PySem.W.Looks (model X.prog X.w) h3 (typeOf (.ref a)) cls := fun A Q E s k q => wpAny_typeOf_ref (k _ _ he3) (by rw [hz3.1]; exact q)
        refine ht a oe3 _ _ _ _ _ cls b _ _ S3 LT hb1 fun h3' k3 => ?_
        have fl3' := flying_keep fl3 k3
        have up3' : s'.heap.UpToSlots h3' := up3.trans fun q o e _ => ⟨o.slots, k3 _ _ e⟩
        cases b with
        | true =>
          refine codeAny_handlers_suite ?_
          refine HandSPX.lands_againZ fl3' fun h4 fl4 up4 => ?_
          have J4 : Inv X pins σ' H' { s' with heap := h4 } := J.landed nb fl4.1 ((up.trans up3').trans up4) os ag
          obtain ⟨oe4, vs4, he4, hz4, hd4⟩ := fl4.there
          have S4 := J4.suite he4 hd4 na nL nF
          refine wpAny_mono ((hsu a oe4 cls d (X.pn ++ pins) hz4 ⟨_, hd4⟩ nb0).run [] _ _ H' _ S4 (hyes rfl a na)) (fun f s6 hsp => ?_) (fun _ _ z => False.elim z)
          cases f with
          | next =>
            obtain ⟨σ6, H6, S6, q6⟩ := hsp
            exact ⟨_, _, S6.unsuite ok, q6⟩
          | brk =>
            obtain ⟨σ6, H6, S6, q6⟩ := hsp
            exact ⟨_, _, S6.unsuite ok, q6⟩
          | cont =>
            obtain ⟨σ6, H6, S6, q6⟩ := hsp
            exact ⟨_, _, S6.unsuite ok, q6⟩
          | ret u =>
            obtain ⟨v6, σ6, H6, S6, r6, q6⟩ := hsp
            exact ⟨_, _, _, S6.unsuite ok, r6, q6⟩
        | false =>
          show wpAny _ X.A (handleBy (.ref a) X.env hds2) _ _ _
          exact ih h3' fl3' up3' (hno rfl)
      | @as t cs n i ts b₀ suite pos' hds2 l2 hN hi hln ht hsu r ih =>
        intro h3 fl3 up3 w
        obtain ⟨b, hb1, hyes, hno⟩ := w
        have J3 : Inv X pins σ' H' { s' with heap := h3 } := J.landed nb fl3.1 (up.trans up3) os ag
        obtain ⟨oe3, vs3, he3, hz3, hd3⟩ := fl3.there
        have S3 := J3.suite he3 hd3 na nL nF
        refine wpAny_handleBy_cons (codeAny_handlers_test ?_) (by intro q; cases q)
        have LT : PySem.W.Looks (model X.prog X.w) h3 (typeOf (.ref a)) cls := fun A Q E s k q => wpAny_typeOf_ref (k _ _ he3) (by rw [hz3.1]; exact q)
        refine ht a oe3 _ _ _ _ _ cls b _ _ S3 LT hb1 fun h3' k3 => ?_
        have fl3' := flying_keep fl3 k3
        have up3' : s'.heap.UpToSlots h3' := up3.trans fun q o e _ => ⟨o.slots, k3 _ _ e⟩
        cases b with
        | true =>
          refine codeAny_handlers_suite_as ?_
          refine HandSPX.lands_againZ fl3' fun h4 fl4 up4 => ?_
          have J4 : Inv X pins σ' H' { s' with heap := h4 } := J.landed nb fl4.1 ((up.trans up3').trans up4) os ag
          obtain ⟨oe4, vs4, he4, hz4, hd4⟩ := fl4.there
          have S4 := J4.suite he4 hd4 na nL nF
          refine store_ok (X := X.suite a ((a, oe4) :: (X.pn ++ pins))) (v := .ref a) S4 hN hi (.inl hln) rfl (fun s5 S5 => ?_) (.inr hln)
          refine wpAny_mono ((hsu a oe4 cls d (X.pn ++ pins) hz4 ⟨_, hd4⟩ nb0).run [] s5 _ H' _ S5 (hyes rfl a na)) (fun f s6 hsp => ?_) (fun _ _ z => False.elim z)
          have end_ : ∀ {σ6 : L2.St} {H6 : Hp} {Q : Shared → Prop}, Inv (X.suite a ((a, oe4) :: (X.pn ++ pins))) [] σ6 H6 s6 → (∀ s7, Inv X pins (σ6.set i none) H6 s7 → Q s7) →
              wpAny (model X.prog X.w) X.A (do bindName X.env n .none; unbindBehindTheSuite X.env n pos') (fun _ s7 => Q s7) X.xe s6 := fun {σ6 H6 Q} S6 hq => gone_ok (S6.unsuite ok) hN hi hln hq
          cases f with
          | next =>
            obtain ⟨σ6, H6, S6, q6⟩ := hsp
            exact end_ S6 fun s7 J7 => ⟨_, _, J7, q6⟩
          | brk =>
            obtain ⟨σ6, H6, S6, q6⟩ := hsp
            exact end_ S6 fun s7 J7 => ⟨_, _, J7, q6⟩
          | cont =>
            obtain ⟨σ6, H6, S6, q6⟩ := hsp
            exact end_ S6 fun s7 J7 => ⟨_, _, J7, q6⟩
          | ret u =>
            obtain ⟨v6, σ6, H6, S6, r6, q6⟩ := hsp
            exact end_ S6 fun s7 J7 => ⟨_, _, _, J7, r6, q6⟩
        | false =>
          show wpAny _ X.A (handleBy (.ref a) X.env hds2) _ _ _
          exact ih h3' fl3' up3' (hno rfl)
    exact go hh h3 fl3 up3 w
  · cases f with
    | next =>
      obtain ⟨σ', H', J', q⟩ := hsp
      exact wpAny_execs_nil ⟨σ', H', J'.ofTry ok, q⟩
    | brk =>
      obtain ⟨σ', H', J', q⟩ := hsp
      exact ⟨σ', H', J'.ofTry ok, q⟩
    | cont =>
      obtain ⟨σ', H', J', q⟩ := hsp
      exact ⟨σ', H', J'.ofTry ok, q⟩
    | ret u =>
      obtain ⟨v, σ', H', J', r, q⟩ := hsp
      exact ⟨v, σ', H', J'.ofTry ok, r, q⟩
end
/-! what is told of the caught one: its fields, isinstance -/
/-- what the class D must say -/
structure XcC (K : PySem.W.Frag) (D : Addr) : Prop where
  ga : PySem.W.findIn K (.ref D) "__getattribute__" = some (some (.builtin "BaseException.__getattribute__"))
  gg : PySem.W.findIn K (.ref D) "__getattr__" = some none
  hs : PySem.W.subIn K (.ref D) (.type "BaseException") = some true
  hd : PySem.W.hasDictIn K D = true
  ha : PySem.W.findIn K (.ref D) "__class__" = some (some (.builtin "object.__class__"))
  hn : PySem.W.specialIn K (.builtin "object.__class__") "__get__" = some (some (.builtin "getset_descriptor.__get__"))
  ht : PySem.W.takesIn K (.builtin "object.__class__") = some true
  hm : PySem.W.mroIn K D (.type "object") = some true
def xgLeaf (K : PySem.W.Frag) (a : Addr) (cls : Value) (d : Option Addr) (f : Str) (Q : VK) (x : V) (H1 : Hp) : Prop :=
  x = .ref a ∧ ∃ C, cls = .ref C ∧ XcC K C ∧ PySem.W.findIn K (.ref C) f = some none ∧ ∃ (dd : Addr) (fs : List (Str × V)) (v : V), d = some dd ∧ H1 dd = some (.xd fs) ∧ fs.lookup f = some v ∧ Q v H1
def tXg (K : PySem.W.Frag) (a : Addr) (cls : Value) (d : Option Addr) (f : Str) (te : TE) : TE := fun σ H Q => te σ H (xgLeaf K a cls d f Q)
theorem inst_of {X : Cx} {pins : List (Addr × Obj)} {σ : L2.St} {H : Hp} {s : Shared} {a C : Addr} {oe : Obj} {dd : Addr} {pn : List (Addr × Obj)} {fs : List (Str × V)} (I : Inv (X.suite a ((a, oe) :: pn)) pins σ H s) (hz : Zc (.ref C) (some dd) oe) (hf : ∃ vs, oe.data = .fields vs) (ea : H dd = some (.xd fs)) :
    ∃ (od : Obj) (mA : Str → Option Value), PySem.W.InstAt s.heap a oe C (some od) ∧ (∀ f, RelO (fs.lookup f) (mA f)) ∧ (∀ f, PySem.W.lookIn f od = some (mA f)) := by
  obtain ⟨ha, _⟩ := I.pin (a, oe) (List.mem_append_left _ List.mem_cons_self)
  obtain ⟨vs, hd⟩ := hf
  have hx : ObjOk X.prog X.w H s.heap dd (.xd fs) := I.hok dd _ ea
  obtain ⟨mA, hns, hr⟩ := hx
  obtain ⟨od, ho, hl⟩ := lookIn_ns hns
  exact ⟨od, mA, ⟨ha, hz.1, by unfold PySem.W.notCls; rw [hd] <;> rfl, by rw [hz.2]; exact ho⟩, hr, hl⟩
section
variable {X : Cx} {a : Addr} {oe : Obj} {cls : Value} {d : Option Addr} {pn : List (Addr × Obj)} {e : Expr} {te : TE} {pos : Pos} {n : Str}
theorem pe_xg (hz : Zc cls d oe) (hf : ∃ vs, oe.data = .fields vs) (he : PE (X.suite a ((a, oe) :: pn)) e te) (hb : attributeBase e n X.env (eval e X.env) = eval e X.env := by rfl) :
    PE (X.suite a ((a, oe) :: pn)) (.Attribute e n pos) (tXg X.K a cls d n te) := by
  refine ⟨fun pins s σ H Q I h => ?_⟩
  refine attr_of hb (thn (he.run pins s σ H _ I h) fun u s1 ⟨x, H1, I1, rx, ex, C, ec, T, hno, dd, fs, v, ed, ea, l, q⟩ => ?_)
  subst ex
  obtain rfl : u = Value.ref a := rx
  subst ec
  subst ed
  obtain ⟨od, mA, J, hr, hl⟩ := inst_of I1 hz hf ea
  obtain ⟨u, hu, ru⟩ := RelO.some_of (v := v) (o := mA n) (by rw [← l]; exact hr n)
  exact HandSPX.exc_get I1.kIn J T.ga T.gg T.hs (PySem.W.findObj_own T.hd hno rfl (by rw [hl, hu])) (handed_of ru) ⟨v, H1, I1.tok _, ru, q⟩
/-- isinstance(e, c), e the exception that the suite holds -/
def rIsX (K : PySem.W.Frag) (a : Addr) (cls : Value) (d : Option Addr) : List V → Hp → VK → Prop := fun xs H Q => ∃ (D dd : Addr) (fs : List (Str × V)) (c : V) (cv : Value) (b : Bool), xs = [.ref a, c] ∧ cls = .ref D ∧ d = some dd ∧ H dd = some (.xd fs) ∧ XcC K D ∧
  (∀ u, RelV c u → u = cv) ∧ PySem.W.kitOne K (.ref D) cv = some b ∧ Q (.bl b) H
end
/-! raise C(y): C's own __init__ stores one field, or two -/
def spX1 (C : Addr) (f : Str) : Sp := fun vs H Q _ => ∃ (a : Addr) (y : V), vs = [.ref a, y] ∧ H a = some (exo a C none) ∧ ∀ dx, H dx = none → dx ≠ a → Q .non (upd (upd H dx (exd dx [(f, y)])) a (exo a C (some dx)))
def mkLeaf (C : Addr) (sp : Sp) (dvs : List V) (Q : XK) (vs : List V) (H1 : Hp) : Prop := vs.length ≤ 1000 ∧ ∀ a, H1 a = none → sp (.ref a :: (vs ++ dvs)) (upd H1 a (exo a C none))
  (fun v H2 => v = .non ∧ ∃ (d : Addr) (fs : List (Str × V)), H2 a = some (exo a C (some d)) ∧ H2 d = some (exd d fs) ∧ H1 d = none ∧ Q (.ref C) (some d) (upd (del H2 a) d (.xd fs))) (fun _ _ _ => False)
def tRs (C : Addr) (sp : Sp) (W : WX) (ta : TA) : TS := fun _ σ H => tMkO C sp [] ta σ H fun cls d H' => W cls d σ H'
section
variable {σ : L2.St} {H : Hp} {D : Ends} {C : Addr} {f : Str} {W : WX} {ta : TA} {y : V} {te : TE} {sp : Sp}
theorem w_rs (h : ta σ H (mkLeaf C sp [] fun cls d H' => W cls d σ H')) : tRs C sp W ta D σ H := h
theorem c_mk1 {Q : XK} (q : ∀ d, H d = none → Q (.ref C) (some d) (upd H d (.xd [(f, y)]))) : mkLeaf C (spX1 C f) [] Q [y] H := by
  refine ⟨by show 1 ≤ 1000; decide, fun a ha => ⟨a, y, rfl, upd_same, fun dx hdx hne => ⟨rfl, dx, [(f, y)], upd_same, ?_, ?_, ?_⟩⟩⟩
  · rw [upd_ne hne, upd_same]
  · rw [upd_ne hne] at hdx
    exact hdx
  · rw [upd_ne hne] at hdx
    have e : upd (del (upd (upd (upd H a (exo a C none)) dx (exd dx [(f, y)])) a (exo a C (some dx))) a) dx (.xd [(f, y)]) = upd H dx (.xd [(f, y)]) := by
      funext b
      by_cases h1 : b = dx
      · rw [h1, upd_same, upd_same]
      · rw [upd_ne h1, upd_ne h1]
        by_cases h2 : b = a
        · rw [h2, del_same, ha]
        · rw [del_ne h2, upd_ne h2, upd_ne h1, upd_ne h2]
    rw [e]
    exact q dx hdx
theorem w_xg {K : PySem.W.Frag} {a : Addr} {cls : Value} {d : Option Addr} {Q : VK} (h : te σ H (xgLeaf K a cls d f Q)) : tXg K a cls d f te σ H Q := h
theorem c_xg {K : PySem.W.Frag} {a dd C : Addr} {fs : List (Str × V)} {v : V} {Q : VK} (T : XcC K C) (hno : PySem.W.findIn K (.ref C) f = some none) (h : H dd = some (.xd fs)) (l : fs.lookup f = some v) (q : Q v H) : xgLeaf K a (.ref C) (some dd) f Q (.ref a) H := ⟨rfl, C, rfl, T, hno, dd, fs, v, rfl, h, l, q⟩
/-- self.f = y of an exception that is being made -/
def ostLeaf (K : PySem.W.Frag) (f : Str) (y : V) (R : Hp → Prop) (x : V) (H2 : Hp) : Prop := ∃ a C : Addr, x = .ref a ∧ OexC K C ∧ PySem.W.findIn K (.ref C) f = some none ∧
  ((H2 a = some (exo a C none) ∧ ∀ dx, H2 dx = none → dx ≠ a → R (upd (upd H2 dx (exd dx [(f, y)])) a (exo a C (some dx)))) ∨
    ∃ (dx : Addr) (fs : List (Str × V)), H2 a = some (exo a C (some dx)) ∧ H2 dx = some (exd dx fs) ∧ fs.length ≤ 900 ∧ R (upd H2 dx (exd dx ((f, y) :: fs))))
end
section
variable {X : Cx} {CX : CXT} {x : Str} {C fI : Addr} {k : Nat} {fd : FuncData} {ps : List Str} {sp : Sp} {e : Expr} {es : List Expr} {ta : TA} {p pos pos2 : Pos} {W : WX}
theorem ps_rs (hc : X.calm = true) (tk : Takes X W) (T : OexC X.K C) (iC : PySem.W.findIn X.K (.ref C) "__init__" = some (some (.ref fI))) (tI : PySem.W.typeIn X.K (.ref fI) = some (.type "function"))
    (F1 : FnOk X.prog X.w X.K X.mg X.base CX k fI fd ps sp) (hr : Room (k + 1) X.A) (hb : Binds X.K fd ps []) (hx : Passes CX X (fun _ _ _ => False)) (hg : Gl X x) (hm : X.mg x = some (.ref C)) (ha : PA X (e :: es) ta)
    (hdb : (x == ("__debug__" : Str)) = false := by decide) (he : starEach (e :: es) X.env = (false, eval e X.env) :: starEach es X.env := by rfl) (hpl : (backTo pos (starEach es X.env)).any (·.1) = false := by rfl) :
    PS X (.Raise (some (.Call (.Name x p) (e :: es) [] pos)) none pos2) (tRs C sp W ta) := ps_raise hc tk (pmk_oex T iC tI F1 hr hb .nil hx hg hm ha hdb he hpl)
end
/-- what the text says of an own exception class whose __init__ is f -/
structure XT (K : PySem.W.Frag) (C f : Addr) : Prop where
  oex : OexC K C
  ini : PySem.W.findIn K (.ref C) "__init__" = some (some (.ref f))
  fn : PySem.W.typeIn K (.ref f) = some (.type "function")
  xc : XcC K C
/-! o.m(a, .., k = v) in a try -/
section
variable {X : Cx} {CX : CXT} {k : Nat} {f C : Addr} {fd : FuncData} {ps ks : List Str} {sp : Sp} {E : L2.St → XK} {m : Str} {apos pos : Pos} {e o : Expr} {es : List Expr} {kws : List Keyword} {ta : TE} {t tk : TA} {g : List Value → List Value → List Value} {gV : List V → List V → List V}
def mkSLeaf (C : Addr) (m : Str) (sp : Sp) (gV : List V → List V → List V) (E : L2.St → XK) (t tk : TA) (σ : L2.St) (Q : VK) (x : V) (H1 : Hp) : Prop := ∃ a dx fs, x = .ref a ∧ H1 a = some (.ins C dx fs) ∧ fs.lookup m = none ∧ t σ H1 fun vs H2 => tk σ H2 fun zs H3 => sp (gV (x :: vs) zs) H3 Q (E σ)
def tMethKS (C : Addr) (m : Str) (sp : Sp) (gV : List V → List V → List V) (E : L2.St → XK) (ta : TE) (t tk : TA) : TE := fun σ H Q => ta σ H (mkSLeaf C m sp gV E t tk σ Q)
end
section
variable {σ : L2.St} {H : Hp} {Q : VK} {C p dx : Addr} {m : Str} {sp : Sp} {gV : List V → List V → List V} {E : L2.St → XK} {ta : TE} {t tk : TA} {fs : List (Str × V)}
theorem w_methKS (h : ta σ H (mkSLeaf C m sp gV E t tk σ Q)) : tMethKS C m sp gV E ta t tk σ H Q := h
theorem w_callS (h : t σ H fun vs H1 => sp vs H1 Q (E σ)) : tCallS sp E t σ H Q := h
end
/-! which clause -/
section
variable {K : PySem.W.Frag} {Wout : WX} {D : Ends} {cs : List Value} {ts : Addr → Value → Option Addr → TS} {r : List HS} {cls : Value} {d : Option Addr} {σ : L2.St} {H : Hp} {i : Nat}
theorem hd_yes (h : PySem.W.exmAny K cls cs = some true) (q : ∀ a, H a = none → ts a cls d { nx := fun σ' H' => D.nx (σ'.set i none) H', rt := D.rt, bk := fun σ' H' => D.bk (σ'.set i none) H', ct := fun σ' H' => D.ct (σ'.set i none) H' } (σ.set i (some (.ref a))) H) : wHds K Wout D ((cs, some i, ts) :: r) cls d σ H := ⟨true, h, fun _ => q, fun z => nomatch z⟩
theorem hd_no (h : PySem.W.exmAny K cls cs = some false) (q : wHds K Wout D r cls d σ H) : wHds K Wout D ((cs, some i, ts) :: r) cls d σ H := ⟨false, h, (fun z => absurd z Bool.false_ne_true), fun _ => q⟩
theorem exm1 {C : Addr} {b : Bool} (h : PySem.W.subIn K cls (.ref C) = some b) (h1 : PySem.W.subIn K (.ref C) (.type "BaseException") = some true) (hd : PySem.W.hasDictIn K C = true) (ht : PySem.W.typeIn K (.ref C) = some (.type "type")) : PySem.W.exmAny K cls [.ref C] = some b := by
  obtain ⟨cd, hc, _⟩ := PySem.W.any_some hd
  have e1 : (PySem.W.subIn K (.ref C) (.type "BaseException") == some true) = true := by rw [h1] <;> rfl
  have e2 : ((PySem.W.clsIn K C).isSome && PySem.W.typeIn K (.ref C) == some (.type "type")) = true := by rw [hc, ht] <;> rfl
  have e3 : PySem.W.exmOne K cls (.ref C) = some b := by
    show (if (PySem.W.subIn K (.ref C) (.type "BaseException") == some true) = true then (if ((PySem.W.clsIn K C).isSome && PySem.W.typeIn K (.ref C) == some (.type "type")) = true then PySem.W.subIn K cls (.ref C) else none) else none) = some b
    rw [if_pos e1, if_pos e2]
    exact h
  unfold PySem.W.exmAny
  rw [e3]
  show some (b || false) = some b
  rw [Bool.or_false]
end
/-- a class that an except clause may name -/
structure XN (K : PySem.W.Frag) (C : Addr) : Prop where
  bs : PySem.W.subIn K (.ref C) (.type "BaseException") = some true
  hd : PySem.W.hasDictIn K C = true
  ty : PySem.W.typeIn K (.ref C) = some (.type "type")
theorem XN.exm {K : PySem.W.Frag} {C : Addr} {cls : Value} {b : Bool} (n : XN K C) (h : PySem.W.subIn K cls (.ref C) = some b) : PySem.W.exmAny K cls [.ref C] = some b := exm1 h n.bs n.hd n.ty
end Ex

/-! Pz: classes whose __init__ has a default, *values and **named; static methods; classmethods. -/
namespace Pz
open PySem PySem.Spec PyProof.Rows L2 StX
section
variable {CX : CXT} {P : Program} {w : World} {K : PySem.W.Frag} {mg : Str → Option Value} {base : Heap} {k : Nat} {f T : Addr} {name qual : Str} {params : Arguments} {body : List Stmt} {scope : Scope} {kV doc pm cdv ct oc : Value} {an od : Option Addr}
  {osl : Array (Option Value)} {N : List Str} {sp : Sp} {oT : Obj} {du : Value} {dv : V} {nT : Nat} {p1 p2 pv pd : Str}
/-- what a call binds when its positional values are us, the rest goes into a tuple, and an empty dict stands for the names -/
def Lays (T : Addr) (du : Value) (m : Sem (List (Str × Value))) (bs : List (Str × Value)) (rest : List Value) (pv pd : Str) : Prop :=
  ∃ kk : Option (Array Value) → Sem (List (Str × Value)), m = (seqItems? (.ref T) >>= kk) ∧ kk (some #[du]) = (newTuple rest >>= fun t => (alloc ({ cls := .type "dict", data := .dict #[] } : Obj) : Sem Addr) >>= fun d => pure (bs ++ [(pv, t), (pd, Value.ref d)]))
/-- def f(self, text=d, *values, **named), called without keywords -/
theorem fn_starkwD (lk : K.lookup f = some ⟨oc, od, .func (PySem.W.fnOf name qual params body scope (.ref T) kV doc pm an cdv ct), osl⟩) (lT : K.lookup T = some oT) (hT : oT.data = .seq #[du] nT) (rd : RelV dv du)
    (hcd : PySem.W.codeIn K cdv qual = true) (S : FnScope N [p1, p2, pv, pd] scope) (hCX : CXUp CX)
    (hb : ∀ (a b : Value) (rest : List Value), Lays T du (bindArgs (PySem.W.fnOf name qual params body scope (.ref T) kV doc pm an cdv ct) ⟨a :: b :: rest, []⟩) [(p1, a), (p2, b)] rest pv pd)
    (hb0 : ∀ a : Value, Lays T du (bindArgs (PySem.W.fnOf name qual params body scope (.ref T) kV doc pm an cdv ct) ⟨[a], []⟩) [(p1, a), (p2, du)] [] pv pd)
    (hbody : ∀ (A : Around) (outer : List Env) (s : Shared) (H : Hp) (vs : List V) (Q : VK) (E : XK), Room k (A.deeper (envOfC qual scope s.heap.objs.size f cdv)) → sp vs H Q E →
      ∃ t, PSs (cxOf CX P w K mg base N qual scope f cdv A outer s H E) body t ∧ t { nx := fun _ H' => Q .non H', rt := Q } (start N vs) H) :
    FnR P w K mg base CX (k + 1) f (fun vs H Q E => ∃ (x y : V) (rest : List V), (vs = x :: y :: rest ∨ (vs = [x] ∧ y = dv ∧ rest = [])) ∧ rest.length ≤ sizeLine ∧ ∀ p d, H p = Option.none → H d = Option.none → d ≠ p → sp [x, y, V.ref p, V.ref d] (upd (upd H p (.tup rest)) d (.dK [])) Q E) := by
  intro A outer s H us vs Q E hr e0 r hsp
  obtain ⟨x, y, rest, ev, hz, hq⟩ := hsp
  have KX : K.In s.heap := e0.mod.kin.keeps fun b o e => (e0.bs b o e).1
  obtain ⟨u1, u2, ur, rx, ry, rr, lay⟩ : ∃ (u1 u2 : Value) (ur : List Value), RelV x u1 ∧ RelV y u2 ∧ Vals rest ur ∧ Lays T du (bindArgs (PySem.W.fnOf name qual params body scope (.ref T) kV doc pm an cdv ct) ⟨us, []⟩) [(p1, u1), (p2, u2)] ur pv pd := by
    rcases ev with rfl | ⟨rfl, rfl, rfl⟩
    · cases r with
      | cons a r1 =>
        cases r1 with
        | cons b r2 => exact ⟨_, _, _, a, b, r2, hb _ _ _⟩
    · cases r with
      | cons a r1 =>
        cases r1
        exact ⟨_, _, _, a, rd, .nil, hb0 _⟩
  obtain ⟨kk, e1, e2⟩ := lay
  have hn : H s.heap.objs.size = Option.none := e0.hok.fresh (Nat.le_refl _)
  have hl2 : ur.length ≤ sizeLine := by rw [← rr.length]; exact hz
  refine run_bnd lk hcd S hr e0 (G := fun xs H2 => ∃ p d, H p = Option.none ∧ H d = Option.none ∧ d ≠ p ∧ xs = [x, y, V.ref p, V.ref d] ∧ H2 = upd (upd H p (.tup rest)) d (.dK [])) (fun A' Ex Q' h => ?_) fun s2 H2 xs ⟨p, d, hp, hd, hne, ex, eH⟩ hr' => ?_
  · rw [e1]
    refine wpAny_bind (wpAny_seqItems (KX _ _ lT) hT ?_)
    rw [e2]
    refine wpAny_bind (wpAny_newTuple (wpAny_bind (wpAny_alloc (wpAny_pure ?_))) hl2)
    have new : ObjOk P w (upd H s.heap.objs.size (.tup rest)) (s.heap.push ({ cls := .type "tuple", data := .seq ur.toArray } : Obj)) s.heap.objs.size (.tup rest) := ⟨hz, ur, rr, ⟨_, Heap.get?_push_size _ rfl, rfl, _, rfl⟩⟩
    have e1 := env0_laid e0 new
    have un1 := un_laid (fs := frs outer) (s := s) (o := ({ cls := .type "tuple", data := .seq ur.toArray } : Obj)) (u := .tup rest) hn
    have hn2 := e1.hok.fresh (Nat.le_refl _)
    have e2 := env0_laid (u := .dK []) (o := ({ cls := .type "dict", data := .dict #[] } : Obj)) e1 (dk_empty _ (env0_big e1))
    have un2 := un1.trans (un_laid (fs := frs outer) (s := { s with heap := s.heap.push ({ cls := .type "tuple", data := .seq ur.toArray } : Obj) }) (o := ({ cls := .type "dict", data := .dict #[] } : Obj)) (u := .dK []) hn2)
    have sz : (s.heap.push ({ cls := .type "tuple", data := .seq ur.toArray } : Obj)).objs.size = s.heap.objs.size + 1 := Heap.size_push _ _
    have ne : (s.heap.push ({ cls := .type "tuple", data := .seq ur.toArray } : Obj)).objs.size ≠ s.heap.objs.size := by
      rw [sz]
      exact Nat.succ_ne_self _
    have hd : H (s.heap.push ({ cls := .type "tuple", data := .seq ur.toArray } : Obj)).objs.size = Option.none := e0.hok.fresh (by rw [sz]; exact Nat.le_succ _)
    exact h _ _ [x, y, V.ref s.heap.objs.size, V.ref (s.heap.push ({ cls := .type "tuple", data := .seq ur.toArray } : Obj)).objs.size] [u1, u2, Value.ref s.heap.objs.size, Value.ref (s.heap.push ({ cls := .type "tuple", data := .seq ur.toArray } : Obj)).objs.size] e2 un2 rfl
      (fun e s' => hCX outer s H _ _ E e s' un2 (fun b o q => Heap.get?_push_of_some _ (Heap.get?_push_of_some _ q)) rfl) (.cons rx (.cons ry (.cons rfl (.cons rfl .nil)))) rfl ⟨_, _, hn, hd, ne, rfl, rfl⟩
  · subst ex eH
    exact hbody A outer s2 _ _ Q E hr' (hq p d hp hd hne)
end
section
variable {X : Cx} {CX : CXT} {k i : Nat} {f C p g : Addr} {mc : Value} {sp : Sp} {E : XK} {x m : Str} {e o : Expr} {es : List Expr} {ta : TE} {t : TA} {p0 pos apos : Pos} {pl : Sem Bool}
/-- cls(..), cls a local that holds the class -/
def tMkVar (i : Nat) (C : Addr) (sp : Sp) (E : XK) (t : TA) : TE := fun σ H Q => σ[i]? = some (some (.ref C)) ∧ tMakeR C sp E t σ H Q
theorem pe_mkVar (M : Mk X.K C f) (F : FnR X.prog X.w X.K X.mg X.base CX k f sp) (hr : Room (k + 1) X.A) (hN : X.N[i]? = some x) (hv : Vis X.env.scope x) (hx : Passes CX X E) (ha : PA X (e :: es) t)
    (hdb : (x == ("__debug__" : Str)) = false := by decide) (hcd : (x == ("__classdict__" : Str)) = false := by decide)
    (he : starEach (e :: es) X.env = (false, eval e X.env) :: starEach es X.env := by rfl) (hpl : (backTo pos (starEach es X.env)).any (·.1) = false := by rfl) : PE X (.Call (.Name x p0) (e :: es) [] pos) (tMkVar i C sp E t) := by
  refine ⟨fun pins s σ H Q I h => ?_⟩
  obtain ⟨hs, ht⟩ := h
  refine wpAny_Call_Name_kw (thn ((pe_var (pos := p0) hN hv hdb hcd).run pins s σ H (fun v H1 => v = .ref C ∧ H1 = H) I ⟨.ref C, hs, rfl, rfl⟩) fun u s1 ⟨v, H1, I1, r1, q1⟩ => ?_)
  obtain ⟨rfl, rfl⟩ := q1
  cases r1
  refine PySem.W.callWith_K (h₀ := X.base) I.ok.mod.kin M.kp (thn (ha.run pos pins s1 σ _ _ I1 ht) fun us s2 ⟨vs, H2, I2, r, q⟩ => ⟨I2.kIn, ?_⟩) he hpl
  exact run_makeR M F hr hx I2 r q
/-- C.m is a static method: its record at p, its def at g -/
structure CSta (K : PySem.W.Frag) (C : Addr) (mc : Value) (m : Str) (p g : Addr) : Prop where
  at_ : PySem.W.findCls K (.ref C) mc m = some (.get (.builtin "staticmethod.__get__") (.ref p) .none (.ref C))
  rc : ∃ rest, PySem.W.recIn K p "staticmethod" = some (.ref g :: rest)
  kp : PySem.W.keepIn K (.ref g) = true
/-- C.m(e, ..), m a static method -/
def tSMeth (C : Addr) (sp : Sp) (E : XK) (ta : TE) (t : TA) : TE := fun σ H Q => ta σ H fun x H1 => x = .ref C ∧ t σ H1 fun vs H2 => sp vs H2 Q E
end
/-- a def with one default, *values and **named, as it stands behind the top -/
structure FunS (K : PySem.W.Frag) (x qual : Str) (st : Stmt) (p1 p2 pv pd : Str) (dv : V) (f : Addr) : Prop where
  ex : ∃ (oc : Value) (od : Option Addr) (T : Addr) (oT : Obj) (du : Value) (nT : Nat) (kV doc pm : Value) (an : Option Addr) (cdv ct : Value) (osl : Array (Option Value)),
    K.lookup f = some ⟨oc, od, .func (PySem.W.fnOf x qual (defArgs st) (defBody st) (defScope st) (.ref T) kV doc pm an cdv ct), osl⟩ ∧ K.lookup T = some oT ∧ oT.data = .seq #[du] nT ∧ RelV dv du ∧ PySem.W.codeIn K cdv qual = true ∧
    (∀ (a b : Value) (rest : List Value), Lays T du (bindArgs (PySem.W.fnOf x qual (defArgs st) (defBody st) (defScope st) (.ref T) kV doc pm an cdv ct) ⟨a :: b :: rest, []⟩) [(p1, a), (p2, b)] rest pv pd) ∧
    ∀ a : Value, Lays T du (bindArgs (PySem.W.fnOf x qual (defArgs st) (defBody st) (defScope st) (.ref T) kV doc pm an cdv ct) ⟨[a], []⟩) [(p1, a), (p2, du)] [] pv pd
theorem FunS.ok {CX : CXT} {P : Program} {w : World} {K : PySem.W.Frag} {mg : Str → Option Value} {base : Heap} {k : Nat} {f : Addr} {x qual : Str} {st : Stmt} {N : List Str} {sp : Sp} {p1 p2 pv pd : Str} {dv : V} (F : FunS K x qual st p1 p2 pv pd dv f) (S : FnScope N [p1, p2, pv, pd] (defScope st)) (hCX : CXUp CX)
    (hbody : ∀ (cdv : Value) (A : Around) (outer : List Env) (s : Shared) (H : Hp) (vs : List V) (Q : VK) (E : XK), Room k (A.deeper (envOfC qual (defScope st) s.heap.objs.size f cdv)) → sp vs H Q E →
      ∃ t, PSs (cxOf CX P w K mg base N qual (defScope st) f cdv A outer s H E) (defBody st) t ∧ t { nx := fun _ H' => Q .non H', rt := Q } (start N vs) H) :
    FnR P w K mg base CX (k + 1) f (fun vs H Q E => ∃ (x y : V) (rest : List V), (vs = x :: y :: rest ∨ (vs = [x] ∧ y = dv ∧ rest = [])) ∧ rest.length ≤ sizeLine ∧ ∀ p d, H p = Option.none → H d = Option.none → d ≠ p → sp [x, y, V.ref p, V.ref d] (upd (upd H p (.tup rest)) d (.dK [])) Q E) := by
  obtain ⟨oc, od, T, oT, du, nT, kV, doc, pm, an, cdv, ct, osl, lk, lT, hT, rd, hcd, hb, hb0⟩ := F.ex
  exact fn_starkwD lk lT hT rd hcd S hCX hb hb0 fun A outer s H vs Q E => hbody cdv A outer s H vs Q E
/-! named leaves -/
section
variable {K : PySem.W.Frag} {σ : L2.St} {H : Hp} {Q : VK} {te : TE} {t : TA} {C : Addr} {sp : Sp} {E : XK}
def starL (K : PySem.W.Frag) (t : TA) (σ : L2.St) (R : List V → Hp → Prop) : VK := fun x H1 => ∃ p xs, x = V.ref p ∧ (SqT K H1 p xs ∨ SqL K H1 p xs) ∧ t σ H1 fun ys H2 => R (xs ++ ys) H2
theorem w_star {R : List V → Hp → Prop} (h : te σ H (starL K t σ R)) : tStar K te t σ H R := h
theorem c_starL {R : List V → Hp → Prop} {a : Addr} {xs : List V} (ha : H a = some (.lst xs)) (h : t σ H fun ys H2 => R (xs ++ ys) H2) : starL K t σ R (.ref a) H := ⟨a, xs, rfl, .inr (SqL.of ha), h⟩
/-- the promise of a def with a default, *values and **named, from that of its body -/
def SpStar (dv : V) (sp : Sp) : Sp := fun vs H Q E => ∃ (x y : V) (rest : List V), (vs = x :: y :: rest ∨ (vs = [x] ∧ y = dv ∧ rest = [])) ∧ rest.length ≤ sizeLine ∧ ∀ p d, H p = Option.none → H d = Option.none → d ≠ p → sp [x, y, V.ref p, V.ref d] (upd (upd H p (.tup rest)) d (.dK [])) Q E
def mkRL (C : Addr) (sp : Sp) (E : XK) (Q : VK) : List V → Hp → Prop := fun vs H1 => ∀ x dx, H1 x = Option.none → H1 dx = Option.none → dx ≠ x → sp (V.ref x :: vs) (upd (upd H1 dx (.own x)) x (.ins C dx [])) (fun v H2 => v = .non ∧ Q (.ref x) H2) E
theorem w_mkR (h : t σ H (mkRL C sp E Q)) : tMakeR C sp E t σ H Q := h
theorem w_mkVar {i : Nat} (hs : σ[i]? = some (some (.ref C))) (h : t σ H (mkRL C sp E Q)) : tMkVar i C sp E t σ H Q := ⟨hs, h⟩
end
end Pz

/-! Gn: generator defs: if, for over what pi_list and its like hand out. -/
namespace Gn
open PySem PySem.Spec PyProof.Rows L2
section
variable {X : Cx} {pos : Pos}
def tGIf (c : TT) (tb te : TGn) : TGn := fun D ys σ H => c σ H fun b H1 => if b = true then tb D ys σ H1 else te D ys σ H1
theorem gs_if {test : Expr} {body orelse : List Stmt} {tc : TT} {tb te : TGn} (hc : PT X test tc) (hb : GSs X body tb) (he : GSs X orelse te) : GS X (.If test body orelse pos) (tGIf tc tb te) := by
  refine ⟨fun A S ip R n ys s₀ c fs K J gd lv s σ H D g hn k hI ht => ?_⟩
  obtain ⟨acc, cc, r, I⟩ := hI
  rw [arm_exec_If]
  show Seg _ _ _ _ n s₀ c (.at pos fun _ => (isTrue test X.env (eval test X.env) >>= fun b => if b = true then execs body X.env else execs orelse X.env).wrap K J gd lv) fs s
  refine seg_at (seg_bind_wrap ?_)
  rw [g.over]
  refine wpAny_mono (hc.run _ s σ H _ I ht) (fun b s' hv => ?_) fun x s' hx => k.exc n s₀ x s' hx
  obtain ⟨H1, I1, q⟩ := hv
  cases b with
  | true =>
    rw [if_pos rfl] at q
    rw [if_pos rfl]
    exact hb.run A S ip R n ys s₀ c fs K J gd lv s' σ H1 D g hn k ⟨acc, cc, r, I1⟩ q
  | false =>
    rw [if_neg Bool.false_ne_true] at q
    rw [if_neg Bool.false_ne_true]
    exact he.run A S ip R n ys s₀ c fs K J gd lv s' σ H1 D g hn k ⟨acc, cc, r, I1⟩ q
end
section
variable {prog : Program} {w : World} {A : Around} {R : GenEnd} {Y : Protocol} {n : Nat} {s₀ : Shared} {fs : List Frame} {s : Shared} {env : Env}
/-- what is left where an exception leaves the loop's code -/
def forErr (env : Env) (x : Value) : Sem PySem.Fin := (do noteFrame x env; theTreesLotGoes x : Sem Unit).wrap (fun _ => .raise x) .raise id id
theorem seg_block_nil (h : Seg (model prog w) A R Y n s₀ (.block [] env) (.pure (.done .next)) fs s) : Seg (model prog w) A R Y n s₀ (.block [] env) ((model prog w).den (.block [] env)) fs s := h
theorem seg_forLoop {target : Expr} {it : Value} {body : List Stmt}
    (h : wpAny (model prog w) (A.over (.forLoop target it body [] env) fs) (pyNext it) (fun r s' => match r with
        | none => Seg (model prog w) A R Y n s₀ (.block [] env) (.pure (.done .next)) fs s'
        | some v => wpAny (model prog w) (A.over (.forLoop target it body [] env) fs) (letOwnedTupleGo target it v) (fun _ s2 =>
            wpAny (model prog w) (A.over (.forLoop target it body [] env) fs) (assign target env v) (fun _ s3 =>
              Seg (model prog w) A R Y n s₀ (.forLoop target it body [] env) ((execs body env).wrap (fun f => match f with
                | .next | .cont => .pure (.again (.forLoop target it body [] env))
                | .brk => .pure (.done .next)
                | .ret v => .pure (.done (.ret v))) (forErr env) id id) fs s3)
              (fun x s3 => Seg (model prog w) A R Y n s₀ (.forLoop target it body [] env) (forErr env x) fs s3) s2)
            (fun x s2 => Seg (model prog w) A R Y n s₀ (.forLoop target it body [] env) (forErr env x) fs s2) s')
      (fun x s' => Seg (model prog w) A R Y n s₀ (.forLoop target it body [] env) (forErr env x) fs s') s) :
    Seg (model prog w) A R Y n s₀ (.forLoop target it body [] env) ((model prog w).den (.forLoop target it body [] env)) fs s := by
  show Seg _ A R Y n s₀ _ ((forTurn target it body [] env).onRaise (fun x => do noteFrame x env; theTreesLotGoes x)) fs s
  have e0 : (forTurn target it body [] env).onRaise (fun x => do noteFrame x env; theTreesLotGoes x) = (forTurn target it body [] env).wrap .pure (forErr env) id id := by
    rw [Sem.onRaise_eq_wrap]
    refine Sem.wrap_congr _ _ _ (fun f => rfl) (fun e => ?_)
    show (do noteFrame e env; theTreesLotGoes e : Sem Unit).bind (fun _ => .raise e) = _
    rw [Sem.bind_eq_wrap]
    rfl
  rw [e0]
  unfold forTurn
  refine seg_at ?_
  refine seg_bind_wrap (wpAny_pure ?_)
  refine seg_bind_wrap ?_
  refine wpAny_onRaise (wpAny_mono h (fun r s' hr => ?_) fun x s' hx => wpAny_standAt hx)
  cases r with
  | none =>
    exact seg_again rfl (seg_block_nil hr)
  | some v =>
    refine seg_bind_wrap (wpAny_mono hr (fun _ s2 h2 => ?_) fun x s2 hx => hx)
    refine seg_bind_wrap (wpAny_mono h2 (fun _ s3 h3 => ?_) fun x s3 hx => hx)
    rw [Sem.bind_eq_wrap', Sem.wrap_wrap]
    rw [Sem.wrap_congr (execs body env) _ _ (K' := fun f => match f with
            | .next | .cont => .pure (.again (.forLoop target it body [] env))
            | .brk => .pure (.done .next)
            | .ret v => .pure (.done (.ret v))) (H' := forErr env) (fun f => by cases f <;> rfl) (fun e => (rfl : Sem.wrap Sem.pure (forErr env) id id (Sem.raise e) = forErr env e))]
    exact h3
end
section
variable {X : Cx} {tg : Expr} {pos : Pos}
/-- W: the turn, a measure, what is out -/
def tGFor (wi : TI) (g : TG) (tb : TGn) : TGn := fun D ys σ H => wi σ H fun J H1 => ∃ W : Nat → Nat → List V → L2.St → Hp → Prop, (∃ m, W 0 m ys σ H1) ∧ ∀ i m ys σ H, W i m ys σ H →
  (J.stop i H ∧ D.nx ys σ H) ∨ (J.go i H ∧ ∃ N : List V → L2.St → Hp → Prop, (∀ ys' σ' H', N ys' σ' H' → ∃ m', m' < m ∧ W (i + 1) m' ys' σ' H') ∧ ∀ x H', J.yld i H x H' → g x σ H' fun σ2 H2 => tb { D with nx := N, ct := N, bk := D.nx } ys σ2 H2)
theorem gi_unpin {S : Addr} {ip pl : List (Addr × Obj)} {ys : List V} {σ : L2.St} {H : Hp} {s : Shared} (h : GI X S (ip ++ pl) ys σ H s) : GI X S ip ys σ H s := by
  obtain ⟨acc, cc, r, I⟩ := h
  exact ⟨acc, cc, r, Inv.unpinned (pl := pl) (pins := (S, lstObj acc cc) :: ip) I⟩
theorem gs_for {iter : Expr} {body : List Stmt} {wi : TI} {g : TG} {tb : TGn} (hp : PassesOwn (model X.prog X.w) X.A X.env X.xe) (hc : X.calm = true) (hi : PI X tg iter wi) (hg : PG X tg g) (hb : GSs X body tb)
    (hs : ∀ x, foldedSetIterable iter X.env x = pure x := by intro _; rfl) : GS X (.For tg iter body [] pos) (tGFor wi g tb) := by
  refine ⟨fun A S ip R n ys s₀ c fs K J gd lv s σ H D gc hn k hI ht => ?_⟩
  obtain ⟨acc0, cc0, r0, I0⟩ := hI
  rw [arm_exec_For]
  refine seg_at (seg_bind_wrap (wpAny_pure (seg_bind_wrap ?_)))
  rw [gc.over]
  refine wpAny_mono (hi.run _ s σ H _ I0 ht) (fun v s1 h1 => ?_) fun x s' hx => k.exc n s₀ x s' hx
  refine seg_bind_wrap (wpAny_of_eq (hs v) ?_)
  refine seg_at (seg_bind_wrap (wpAny_pure (seg_bind_wrap (wpAny_holding ?_))))
  rw [gc.over]
  refine wpAny_mono h1 (fun itv s2 h2 => ?_) fun x s' hx => k.exc n s₀ x s' hx
  refine seg_call fun p => ?_
  obtain ⟨it, fp, tn, J', H2, e, I2, T, st2, f2, W, ⟨m0, w0⟩, turn⟩ := h2
  subst e
  have gl := fun (kk : Result → Sem PySem.Fin) => gc_loop (k := kk) (c' := .forLoop tg (.ref it) body [] X.env) (l := lv []) (kp := []) (p := p) gc rfl rfl
  have loop : ∀ (m i n : Nat) (ys : List V) (s₀ s : Shared) (σ : L2.St) (H : Hp), n + ys.length = sizeLine → W i m ys σ H → GI X S ip ys σ H s → tn i s.heap → (∀ b ∈ fp, H b = none) →
      Seg (model X.prog X.w) A R (GY X S) n s₀ (.forLoop tg (.ref it) body [] X.env) ((model X.prog X.w).den (.forLoop tg (.ref it) body [] X.env))
        (.ret (fun r => ((match r with | .ok f => (.pure f : Sem Flow) | .error e => .raise e).onRaise (cameBack X.env)).wrap K J gd lv) none (gd false) (lv []) c p [] :: fs) s := by
    intro m
    induction m using Nat.strongRecOn with
    | ind m ih =>
      intro i n ys s₀ s σ H hn w hI st fr
      have ee : ∀ (n : Nat) (s₀ : Shared) (x : Value) (s' : Shared), X.xe x s' → Seg (model X.prog X.w) A R (GY X S) n s₀ (.forLoop tg (.ref it) body [] X.env) (forErr X.env x)
          (.ret (fun r => ((match r with | .ok f => (.pure f : Sem Flow) | .error e => .raise e).onRaise (cameBack X.env)).wrap K J gd lv) none (gd false) (lv []) c p [] :: fs) s' := fun n s₀ x s' hx => by
        refine seg_wrap ?_
        rw [(gl _).over]
        refine wpAny_bind (wpAny_mono (hp x s' hx) (fun _ s'' hcb => wpAny_theTreesLotGoes ?_) fun y s'' hcb => ?_)
        · exact seg_leaf (.error x) (seg_cameBack gc k hcb)
        · exact seg_leaf (.error y) (seg_cameBack gc k hcb)
      obtain ⟨acc, cc, r, I⟩ := hI
      have stat : ∀ {H' : Hp}, (∀ b ∈ fp, H' b = none) → ∀ b ∈ fp, FpOk X ((S, lstObj acc cc) :: ip) H' b := fun hn b hb => ⟨hn b hb, (f2 b hb).2.1, (f2 b hb).2.2.1, (f2 b hb).2.2.2.1, (f2 b hb).2.2.2.2.1, fun q hq => by
        rcases List.mem_append.mp hq with hq | hq
        · exact (f2 b hb).2.2.2.2.2 q (List.mem_append_left _ hq)
        · rcases List.mem_cons.mp hq with rfl | hq
          · exact fun z => (f2 b hb).2.2.2.2.2 (S, lstObj acc0 cc0) (List.mem_append_right _ List.mem_cons_self) z
          · exact (f2 b hb).2.2.2.2.2 q (List.mem_append_right _ (List.mem_cons_of_mem _ hq))⟩
      have nS : ∀ b ∈ fp, b ≠ S := fun b hb z => (stat fr b hb).2.2.2.2.2 (S, lstObj acc cc) (List.mem_append_right _ List.mem_cons_self) z.symm
      refine seg_forLoop ?_
      rw [(gl _).over]
      rcases turn i m ys σ H w with ⟨stop, qn⟩ | ⟨go, N, hN, step⟩
      · refine wpAny_mono (T.done X rfl rfl rfl hc i _ s σ H X.xe I (stat fr) st stop) (fun r s4 hr => ?_) fun x s' hx => ee n s₀ x s' hx
        obtain ⟨hr, I4⟩ := hr
        subst hr
        exact seg_leaf (.ok .next) (k.ok n ys s₀ s4 .next hn ⟨σ, H, ⟨acc, cc, r, I4⟩, qn⟩)
      · refine wpAny_mono (T.item X rfl rfl rfl hc i _ s σ H X.xe I (stat fr) st go) (fun rr s4 hr => ?_) fun x s' hx => ee n s₀ x s' hx
        obtain ⟨u, hr, h4⟩ := hr
        subst hr
        refine wpAny_mono h4 (fun _ s5 h5 => ?_) fun x s' hx => ee n s₀ x s' hx
        obtain ⟨x, H5, I5, r5, y5, st5, fr5⟩ := h5
        have I5' := I5.pinned (stat fr5) (T.obj _ _ st5)
        refine wpAny_mono (hg.run _ s5 σ H5 x u _ I5' r5 (step x H5 y5)) (fun _ s6 h6 => ?_) fun x s' hx => ee n s₀ x s' hx
        obtain ⟨σ6, H6, I6, q6⟩ := h6
        have gc2 : GC X S (ip ++ pinsAt fp s5.heap) A (.forLoop tg (.ref it) body [] X.env) (.ret (fun r => ((match r with | .ok f => (.pure f : Sem Flow) | .error e => .raise e).onRaise (cameBack X.env)).wrap K J gd lv) none (gd false) (lv []) c p [] :: fs) id :=
          have g0 := gl (fun r => ((match r with | .ok f => (.pure f : Sem Flow) | .error e => .raise e).onRaise (cameBack X.env)).wrap K J gd lv)
          ⟨g0.pn, fun q hq => by
              rcases List.mem_append.mp hq with hq | hq
              · exact gc.ip q hq
              · exact nS _ (of_pinsAt hq).1, g0.apart, g0.over, g0.split, g0.guard, g0.gd⟩
        have again : ∀ {n' : Nat} {ys' : List V} {s₀' s3 : Shared} {σ3 : L2.St} {H3 : Hp}, n' + ys'.length = sizeLine → GI X S (ip ++ pinsAt fp s5.heap) ys' σ3 H3 s3 → N ys' σ3 H3 →
            Seg (model X.prog X.w) A R (GY X S) n' s₀' (.forLoop tg (.ref it) body [] X.env) ((model X.prog X.w).den (.forLoop tg (.ref it) body [] X.env))
              (.ret (fun r => ((match r with | .ok f => (.pure f : Sem Flow) | .error e => .raise e).onRaise (cameBack X.env)).wrap K J gd lv) none (gd false) (lv []) c p [] :: fs) s3 := fun {n' ys' s₀' s3 σ3 H3} hn' I3 n3 => by
          obtain ⟨m', hm, w3⟩ := hN ys' σ3 H3 n3
          obtain ⟨acc3, cc3, r3, J3⟩ := id I3
          refine ih m' hm (i + 1) n' ys' s₀' s3 σ3 H3 hn' w3 (gi_unpin I3) (T.keep _ _ _ st5 fun b hb o e => (J3.pin (b, o) (List.mem_append_right _ (List.mem_cons_of_mem _ (List.mem_append_right _ (mem_pinsAt hb e))))).1) fun b hb => ?_
          obtain ⟨o, e, d⟩ := T.obj _ _ st5 b hb
          exact (J3.pin (b, o) (List.mem_append_right _ (List.mem_cons_of_mem _ (List.mem_append_right _ (mem_pinsAt hb e))))).2.1
        refine hb.run A S (ip ++ pinsAt fp s5.heap) R n ys s₀ _ _ _ _ id id s6 σ6 H6 { D with nx := N, ct := N, bk := D.nx } gc2 hn ⟨fun n' ys' s₀' s3 f hn' hs => ?_, fun n' s₀' x s3 hx => ee n' s₀' x s3 hx⟩ ⟨acc, cc, r, I6⟩ q6
        cases f with
        | next =>
          obtain ⟨σ3, H3, I3, n3⟩ := hs
          exact seg_again rfl (again hn' I3 n3)
        | cont =>
          obtain ⟨σ3, H3, I3, n3⟩ := hs
          exact seg_again rfl (again hn' I3 n3)
        | brk =>
          obtain ⟨σ3, H3, I3, n3⟩ := hs
          exact seg_leaf (.ok .next) (k.ok n' ys' s₀' s3 .next hn' ⟨σ3, H3, gi_unpin I3, n3⟩)
        | ret v =>
          obtain ⟨v3, σ3, H3, I3, r3, n3⟩ := hs
          exact seg_leaf (.ok (.ret v)) (k.ok n' ys' s₀' s3 (.ret v) hn' ⟨v3, σ3, H3, gi_unpin I3, r3, n3⟩)
  exact loop m0 0 n ys s₀ s2 σ H2 hn w0 ⟨acc0, cc0, r0, I2⟩ st2 fun b hb => (f2 b hb).1
end
/-- a generator def by its body -/
theorem gok {P : Program} {w : World} {K : PySem.W.Frag} {mg : Str → Option Value} {base : Heap} {k : Nat} {f : Addr} {fd : FuncData} {x qual : Str} {st : Stmt} {N ps : List Str} {sp : SpG} (F : Fun K x qual st f fd) (S : GScope N ps (defScope st)) (len : ∀ vs H Q E, sp vs H Q E → vs.length = ps.length)
    (body : ∀ (cdv : Value) (A : Around) (outer : List Env) (s : Shared) (H : Hp) (vs : List V) (Q : List V → Hp → Prop) (E : XK) (pn : List (Addr × Obj)), Room k (A.deeper (envOfC qual (defScope st) s.heap.objs.size f cdv)) → sp vs H Q E →
      ∃ t, GSs (gcxOf P w K mg base N qual (defScope st) f cdv A outer s H E pn) (defBody st) t ∧ t { nx := fun ys _ H' => Q ys H', rt := fun ys v H' => v = .non ∧ Q ys H' } [] (start N vs) H) : GFn P w K mg base (k + 1) f fd ps sp := by
  obtain ⟨oc, od, kV, doc, pm, an, cdv, ct, osl, rfl, lk, hcd⟩ := F.ex
  exact gfn_of lk hcd S len fun A outer s H vs Q E pn => body cdv A outer s H vs Q E pn
theorem pass_gen {X : Cx} : Passes (CX X.prog X.w) X E0 := by
  rintro pins σ H s e s' I ⟨a, B, H', cls, d, _, _, _, _, _, _, _, he⟩
  exact he.elim
theorem noStop0 {K : PySem.W.Frag} : NoStop K E0 := fun _ _ _ h => h.elim
section
variable {K : PySem.W.Frag} {a : Addr} {xs : List V} {g : TG} {tb tb' : TGn} {D : GEnds} {ys : List V} {σ : L2.St} {H : Hp} {te : TE} {c : TT}
theorem gfor_list (Pv : Nat → List V → L2.St → Hp → Prop) (h0 : Pv 0 ys σ H) (hl : ∀ i ys σ H, i ≤ xs.length → Pv i ys σ H → SqL K H a xs)
    (hs : ∀ i x ys σ H, xs[i]? = some x → Pv i ys σ H → g x σ H fun σ2 H2 => tb { D with nx := Pv (i + 1), ct := Pv (i + 1), bk := D.nx } ys σ2 H2) (hd : ∀ ys σ H, Pv xs.length ys σ H → D.nx ys σ H) :
    ∃ W : Nat → Nat → List V → L2.St → Hp → Prop, (∃ m, W 0 m ys σ H) ∧ ∀ i m ys σ H, W i m ys σ H →
      ((Itl K a).stop i H ∧ D.nx ys σ H) ∨ ((Itl K a).go i H ∧ ∃ N : List V → L2.St → Hp → Prop, (∀ ys' σ' H', N ys' σ' H' → ∃ m', m' < m ∧ W (i + 1) m' ys' σ' H') ∧ ∀ x H', (Itl K a).yld i H x H' → g x σ H' fun σ2 H2 => tb { D with nx := N, ct := N, bk := D.nx } ys σ2 H2) := by
  refine ⟨fun i m ys σ H => m = xs.length - i ∧ i ≤ xs.length ∧ Pv i ys σ H, ⟨xs.length, by simp, Nat.zero_le _, h0⟩, ?_⟩
  rintro i m ys σ H ⟨rfl, hi, p⟩
  have q := hl i ys σ H hi p
  by_cases hlt : i < xs.length
  · refine .inr ⟨⟨xs, xs[i], q, by simp [hlt]⟩, Pv (i + 1), fun ys' σ' H' p' => ⟨xs.length - (i + 1), by omega, rfl, hlt, p'⟩, fun x H' y => ?_⟩
    obtain ⟨e, y⟩ := y
    subst e
    exact hs i x ys σ _ (y xs q) p
  · have e : i = xs.length := by omega
    subst e
    exact .inl ⟨⟨xs, q, by simp⟩, hd ys σ H p⟩
theorem w_gFor {wi : TI} (h : wi σ H fun J H1 => ∃ W : Nat → Nat → List V → L2.St → Hp → Prop, (∃ m, W 0 m ys σ H1) ∧ ∀ i m ys σ H, W i m ys σ H →
  (J.stop i H ∧ D.nx ys σ H) ∨ (J.go i H ∧ ∃ N : List V → L2.St → Hp → Prop, (∀ ys' σ' H', N ys' σ' H' → ∃ m', m' < m ∧ W (i + 1) m' ys' σ' H') ∧ ∀ x H', J.yld i H x H' → g x σ H' fun σ2 H2 => tb { D with nx := N, ct := N, bk := D.nx } ys σ2 H2)) : tGFor wi g tb D ys σ H := h
theorem w_gsig {σ' : L2.St} (e : σ' = σ) (h : tb D ys σ H) : tb D ys σ' H := by
  rw [e]
  exact h
theorem w_gThen (h : tb { D with nx := fun ys' σ' H' => tb' D ys' σ' H' } ys σ H) : tGThen tb tb' D ys σ H := h
theorem w_gIf (h : c σ H fun b H1 => if b = true then tb D ys σ H1 else tb' D ys σ H1) : tGIf c tb tb' D ys σ H := h
theorem w_gYield (hz : ys.length < 100000) (h : te σ H fun x H1 => D.nx (ys ++ [x]) σ H1) : tGYield te D ys σ H := ⟨Nat.lt_of_lt_of_le hz (by decide), h⟩
theorem w_g0 (h : D.nx ys σ H) : tG0 D ys σ H := h
theorem w_gnx {f1 f3 f4 : List V → L2.St → Hp → Prop} {f2 : List V → VK} (h : f1 ys σ H) : GEnds.nx ⟨f1, f2, f3, f4⟩ ys σ H := h
end
section
variable {σ : L2.St} {H : Hp} {Q : VK} {C a dx : Addr} {fs : List (Str × V)} {m : Str} {sp : SpG} {E : XK} {i : Nat}
/-- list(x.m()), x a local, m a generator method without arguments -/
theorem w_listG (hv : σ[i]? = some (some (.ref a))) (ho : H a = some (.ins C dx fs)) (hl : fs.lookup m = none) (h : sp [.ref a] H (fun out H2 => ∀ p, H2 p = none → Q (.ref p) (upd H2 p (.lst out))) E) :
    tListG (tMethG C m sp [] E (tVar i) tNil) σ H Q := ⟨_, hv, a, dx, fs, rfl, ho, hl, h⟩
end
end Gn

/-! Po: own operators where the other side is a text; += without an own in-place method; bool(own); o[i] = v by an own method. -/
namespace Po
open PySem PySem.Spec PySem.Calls PySem.W
section
variable {prog : Program} {w : World} {A : Around} {E : Value → Shared → Prop} {s : Shared} {K : Frag} {x C L f g : Addr} {h₀ : Heap} {m : Str → Option Value} {ox : Obj} {od : Option Obj}
/-- bool(own) by its own __bool__ -/
theorem bool_own {Q : Value → Shared → Prop} (X : K.In s.heap) (I : InstAt s.heap x ox C od) (hs : findIn K (.ref C) "__bool__" = some (some (.ref f))) (hf : isFn K (.ref f) = true)
    (h : wpAny (model prog w) A.in1.in1 (call (.ref f) [.ref x]) (fun r s' => ∃ b, r = .bool b ∧ Q (.bool b) s') E s) : wpAny (model prog w) A (call (.type "bool") [.ref x]) Q E s := by
  refine callType_codes (T := "bool") (Bi := Builtin.«object.__init__») (Q₁ := fun r s₁ => ∃ b, r = .bool b ∧ Q r s₁) PySem.F.called_bool (PySem.F.typeCall_bool_1 _) PySem.F.entry_object_init ?_ ?_
  · refine codeAny_of_tree ?_
    show wpAny _ A.in1.in1 (do checkBuiltinCall "bool.__new__" ⟨[.type "bool", .ref x], []⟩; again (.builtin "bool.__new__" ⟨[.type "bool", .ref x], []⟩)) _ _ s
    refine wpAny_bind (wpAny_of_eq (PySem.F.newCall_bool_1 _) (wpAny_pure ⟨plainId_quiet (by decide +kernel) _, codeAny_builtin PySem.F.entry_bool_new ?_⟩))
    rw [Around.under_plainId (by decide +kernel) _]
    have tr : wpAny (model prog w) A.in1.in1 (truthy (.ref x)) (fun b s' => Q (.bool b) s') E s := by
      unfold truthy
      refine wpAny_bind (m := callSpecial? (.ref x) (Str.ofString "__bool__")) (special_fn X I hs (beq_iff_eq.mp hf) (wpAny_mono h (fun r s' hr => ?_) fun _ _ y => y))
      obtain ⟨b, rfl, q⟩ := hr
      exact wpAny_pure q
    obtain ⟨hp, gg, d, tk, os⟩ := s
    have f1 := PySem.F.conv_sub_bool
    repeat (any_goals (first | assumption | (with_reducible refine wpAny_mono tr (fun b s' q => ?_) fun _ _ z => z) | wp_step))
    all_goals exact ⟨_, rfl, q⟩
  · rintro obj s₁ ⟨b, rfl, hq⟩
    exact ⟨rfl, PySem.F.args_object_init_2 _ _, object_init_meets PySem.F.called_bool.init.lookup PySem.F.called_bool.made (by decide) prog w A.in1 _ s₁ ⟨rfl, rfl, hq⟩⟩
end
section
open L2 PyProof.Rows
variable {X : Cx} {CX : CXT} {k : Nat} {f g : Addr} {fd : FuncData} {ps : List Str} {sp : Sp} {E : XK} {C : Addr}
def rOwnS (C : Addr) (sp : Sp) (E : XK) : R2 := fun x y H Q => ∃ a z dx fs, x = .ref a ∧ y = .str z ∧ H a = some (.ins C dx fs) ∧ sp [x, y] H Q E
def rOwnSR (C : Addr) (sp : Sp) (E : XK) : R2 := fun x y H Q => ∃ a z dx fs, y = .ref a ∧ x = .str z ∧ H a = some (.ins C dx fs) ∧ sp [y, x] H Q E
/-- a class of which it is known that it has no own += -/
def NoIAdd (K : Frag) (C : Addr) : Prop := findIn K (.ref C) "__iadd__" = some none ∧ ∃ cd, clsIn K C = some cd ∧ cd.mro = [.ref C, .type "object"]
/-- bool(x) by its own __bool__ -/
def rOwnBool (C : Addr) (sp : Sp) (E : XK) : List V → Hp → VK → Prop := fun xs H Q => ∃ a dx fs, xs = [V.ref a] ∧ H a = some (.ins C dx fs) ∧ sp [V.ref a] H (fun v H' => ∃ b, v = .bl b ∧ Q (.bl b) H') E
theorem cr_ownBool (F : FnOk X.prog X.w X.K X.mg X.base CX k f fd ps sp) (hr : Room (k + 2) X.A) (hm : Meth X.K C "__bool__" f) (hb : Binds X.K fd ps []) (hx : Passes CX X E) : CallR X (.type "bool") (rOwnBool C sp E) := by
  intro pins s σ H xs us Q I r q
  obtain ⟨a, dx, fs, rfl, ha, q⟩ := q
  obtain ⟨u, rfl, ru⟩ := vals1 r
  cases ru
  obtain ⟨mA, J, _⟩ := ins_get I.hok ha
  obtain ⟨od, J, _⟩ := J.look
  have e0 : Env0 X.prog X.w X.K X.mg X.base X.A.in1.in1 X.stack s H := I.env0.in1.in1
  have b := hb s [.ref a] I.kIn (by
    have := F.len _ _ _ _ q
    rw [List.append_nil]
    exact this)
  rw [List.append_nil] at b
  have r1 : Vals [V.ref a] [Value.ref a] := .cons (show RelV (V.ref a) (.ref a) from rfl) .nil
  refine bool_own I.kIn J hm.at_ hm.fn (wpAny_call (codeAny_mono (F.run X.A.in1.in1 X.stack s H ⟨[.ref a], []⟩ [.ref a] [.ref a] _ E hr.in1.in1 e0 b r1 q) fun z s' hz => ?_))
  cases z with
  | error e => exact hx pins σ H s e s' I hz
  | ok fl => cases fl with
    | ret u =>
      obtain ⟨v, H', I', rv, y, ev, q'⟩ := I.after hz
      subst ev
      cases rv
      exact ⟨y, rfl, .bl y, H', I', rfl, q'⟩
    | next => exact hz.elim
    | brk => exact hz.elim
    | cont => exact hz.elim
/-- o[i] = v by o's own __setitem__ -/
def rOwnSet (C : Addr) (sp : Sp) (E : XK) : TSet := fun o i v H Q => ∃ a dx fs, o = .ref a ∧ H a = some (.ins C dx fs) ∧ sp [o, i, v] H (fun _ H' => Q H') E
end
section
open L2
variable {σ : L2.St} {H : Hp} {Q : VK} {E : XK} {sp : Sp} {C a dx : Addr} {fs : List (Str × V)} {y v : V} {z : Str}
theorem c_ownS (ha : H a = some (.ins C dx fs)) (q : sp [.ref a, .str z] H Q E) : rOwnS C sp E (.ref a) (.str z) H Q := ⟨a, z, dx, fs, rfl, rfl, ha, q⟩
theorem c_ownSR (ha : H a = some (.ins C dx fs)) (q : sp [.ref a, .str z] H Q E) : rOwnSR C sp E (.str z) (.ref a) H Q := ⟨a, z, dx, fs, rfl, rfl, ha, q⟩
theorem c_ownBool (ha : H a = some (.ins C dx fs)) (q : sp [.ref a] H (fun v H' => ∃ b, v = .bl b ∧ Q (.bl b) H') E) : rOwnBool C sp E [.ref a] H Q := ⟨a, dx, fs, rfl, ha, q⟩
theorem c_ownSet {R : Hp → Prop} (ha : H a = some (.ins C dx fs)) (q : sp [.ref a, y, v] H (fun _ H' => R H') E) : rOwnSet C sp E (.ref a) y v H R := ⟨a, dx, fs, rfl, ha, q⟩
/-- a test that is a list's truth -/
def truLeaf (K : Frag) (Q : Bool → Hp → Prop) (x : V) (H' : Hp) : Prop := ∃ k, TruV K x H' k ∧ Q k H'
def tTru (K : Frag) (te : TE) : TT := fun σ H Q => te σ H (truLeaf K Q)
theorem w_tru {K : Frag} {te : TE} {R : Bool → Hp → Prop} (h : te σ H (truLeaf K R)) : tTru K te σ H R := h
theorem c_truL {K : Frag} {xs : List V} {R : Bool → Hp → Prop} (h : H a = some (.lst xs)) (q : R (!xs.isEmpty) H) : truLeaf K R (.ref a) H := ⟨!xs.isEmpty, .inl ⟨xs, SqL.of h, rfl⟩, q⟩
/-- bool(a list) -/
def rBoolL (K : Frag) : List V → Hp → VK → Prop := fun xs H Q => ∃ (a : Addr) (zs : List V), xs = [.ref a] ∧ SqL K H a zs ∧ Q (.bl (!zs.isEmpty)) H
theorem cr_boolL {X : Cx} : CallR X (.type "bool") (rBoolL X.K) := call_boolL
theorem c_boolL {K : Frag} {zs : List V} (h : SqL K H a zs) (q : Q (.bl (!zs.isEmpty)) H) : rBoolL K [.ref a] H Q := ⟨a, zs, rfl, h, q⟩
end
section
open L2
theorem w_gUnl {K : Frag} {n : Nat} {g : TGs} {xs : List V} {σ : L2.St} {H : Hp} {R : L2.St → Hp → Prop} {p : Addr} (hs : SqL K H p xs) (hn : xs.length = n) (h : g xs σ H R) : gUnl K n g (.ref p) σ H R := ⟨p, xs, rfl, hs, hn, h⟩
end
/-! lists or tuples -/
section
open L2 PyProof.Rows
def SeqAt (H : Hp) (a : Addr) (xs : List V) : Prop := H a = some (.lst xs) ∨ H a = some (.tup xs)
theorem SeqAt.keep {H H' : Hp} {a : Addr} {xs : List V} (h : SeqAt H a xs) (s : ∀ o, H a = some o → H' a = some o) : SeqAt H' a xs := h.elim (fun h => .inl (s _ h)) fun h => .inr (s _ h)
def seqLeaf (K : Frag) (R : It → Hp → Prop) (x : V) (H1 : Hp) : Prop := Eg.lstLeaf K R x H1 ∨ Eg.tupLeaf K R x H1
def iSeq (K : Frag) (te : TE) : TI := fun σ H R => te σ H (seqLeaf K R)
theorem pi_seq {X : Cx} {tg l : Expr} {tl : TE} (hl : PE X l tl) : PI X tg l (iSeq X.K tl) := by
  refine ⟨fun pins s σ H R I h => ?_⟩
  refine thn (hl.run pins s σ H _ I h) fun v s1 ⟨x, H1, I1, r1, q1⟩ => ?_
  rcases q1 with ⟨a, e, ⟨xs, hq⟩, q⟩ | ⟨a, e, ⟨xs, hq⟩, q⟩
  · subst e
    cases r1
    obtain ⟨its, rv, p, hz⟩ := I1.list hq
    refine wpAny_pyIter_list p.isList ?_
    refine ⟨s1.heap.objs.size, [s1.heap.objs.size], _, _, H1, rfl, I1.kept (t' := s1.toks) fun b o e => Heap.get?_push_of_some _ e, turn_list a _, ⟨_, Heap.get?_push_size _ rfl, rfl, rfl⟩, fun b hb => ?_, q⟩
    have e : b = s1.heap.objs.size := by simpa using hb
    subst e
    exact I1.fpOk (Nat.le_refl _) (I1.hok.fresh (Nat.le_refl _))
  · subst e
    cases r1
    obtain ⟨its, rv, p, hz⟩ := I1.tuple hq
    refine wpAny_pyIter_tuple (show s1.heap.IsTuple a its.toArray from p) ?_
    refine ⟨s1.heap.objs.size, [s1.heap.objs.size], _, _, H1, rfl, I1.kept (t' := s1.toks) fun b o e => Heap.get?_push_of_some _ e, turn_tuple a _, ⟨_, Heap.get?_push_size _ rfl, rfl, rfl⟩, fun b hb => ?_, q⟩
    have e : b = s1.heap.objs.size := by simpa using hb
    subst e
    exact I1.fpOk (Nat.le_refl _) (I1.hok.fresh (Nat.le_refl _))
def rIxA (K : Frag) : R2 := fun x y H Q => rIxL K x y H Q ∨ rIxT K x y H Q
theorem ix_seq {X : Cx} : IxR X (rIxA X.K) := IxR.or ix_list ix_tup
variable {K : Frag} {σ : L2.St} {H : Hp} {Q : VK} {te : TE} {a : Addr} {xs : List V}
theorem w_iSeq {R : It → Hp → Prop} (h : te σ H (seqLeaf K R)) : iSeq K te σ H R := h
theorem c_ixA {i : Int} {v : V} (h : SeqAt H a xs) (hv : atI xs i = some v) (q : Q v H) : rIxA K (.ref a) (.int i) H Q := h.elim (fun h => .inl ⟨a, xs, i, v, rfl, rfl, SqL.of h, hv, q⟩) fun h => .inr ⟨a, xs, i, v, rfl, rfl, SqT.of h, hv, q⟩
theorem c_lenA (h : SeqAt H a xs) (q : Q (.int (xs.length : Nat)) H) : Eg.rLenQ K [V.ref a] H Q := ⟨a, xs, rfl, h.imp SqL.of SqT.of, q⟩
theorem for_seq {g : TG} {tb : TS} {D : Ends} (h : SeqAt H a xs) (Pv : Nat → L2.St → Hp → Prop) (h0 : Pv 0 σ H) (hl : ∀ i σ H', Pv i σ H' → ∀ o, H a = some o → H' a = some o)
    (hs : ∀ i x σ H, xs[i]? = some x → Pv i σ H → g x σ H fun σ2 H2 => tb { D with nx := Pv (i + 1), ct := Pv (i + 1), bk := D.nx } σ2 H2) (hd : ∀ σ H, Pv xs.length σ H → D.nx σ H) :
    seqLeaf K (fun J H1 => ∃ W : Nat → Nat → L2.St → Hp → Prop, (∃ m, W 0 m σ H1) ∧ ∀ i m σ H, W i m σ H →
      (J.stop i H ∧ D.nx σ H) ∨ (J.go i H ∧ ∃ N : L2.St → Hp → Prop, (∀ σ' H', N σ' H' → ∃ m', m' < m ∧ W (i + 1) m' σ' H') ∧ ∀ x H', J.yld i H x H' → g x σ H' fun σ2 H2 => tb { D with nx := N, ct := N, bk := D.nx } σ2 H2)) (.ref a) H := by
  rcases h with h | h
  · exact .inl ⟨a, rfl, ⟨xs, SqL.of h⟩, for_list Pv h0 (fun i σ H' _ p => SqL.of (hl i σ H' p _ h)) hs hd⟩
  · exact .inr ⟨a, rfl, ⟨xs, SqT.of h⟩, for_tup Pv h0 (fun i σ H' _ p => SqT.of (hl i σ H' p _ h)) hs hd⟩
end
/-! v in own; xs[i:j] = ys -/
section
open L2 PyProof.Rows
variable {X : Cx} {CX : CXT} {k : Nat} {f : Addr} {fd : FuncData} {ps : List Str} {sp : Sp} {E : XK} {C : Addr}
def rOwnIn (C : Addr) (sp : Sp) (E : XK) : R2 := fun x y H Q => ∃ a dx fs, y = .ref a ∧ H a = some (.ins C dx fs) ∧ sp [y, x] H (fun v H' => ∃ b, v = .bl b ∧ Q (.bl b) H') E
/-- o[i:j] = v, v another list -/
def slcLeaf (v o i j : V) (R : Hp → Prop) (H : Hp) : Prop := ∃ (l b : Addr) (xs ys : List V) (a c : Int), o = .ref l ∧ v = .ref b ∧ i = .int a ∧ j = .int c ∧ H l = some (.lst xs) ∧ H b = some (.lst ys) ∧ l ≠ b ∧ 0 ≤ a ∧ a ≤ c ∧ c ≤ xs.length ∧ xs.length + ys.length ≤ sizeLine ∧ R (upd H l (.lst (xs.take a.toNat ++ ys ++ xs.drop c.toNat)))
def gSlc (to tl th : TE) : TG := fun v σ H R => to σ H fun o H1 => tl σ H1 fun i H2 => th σ H2 fun j H3 => slcLeaf v o i j (R σ) H3
end
end Po

/-! Rv: repr of texts, ints and data; data with the sum of its sizes. -/
namespace Rv
open PySem PySem.Spec PyProof.Rows L2 SX Rp
theorem all_okS {α : Type} {k : Nat} (f : α → PyData) (w : α → Nat) : ∀ {xs : List α}, (∀ x ∈ xs, Ok k (w x) (f x)) → PyData.showableAll (xs.map f) = true ∧ PyData.hasDictAll (xs.map f) = false ∧ PyData.depthAll (xs.map f) ≤ k ∧ PyData.leavesShortAll 200 (xs.map f) = true ∧ PyData.weightAll (xs.map f) ≤ (xs.map fun x => w x + 1).sum
  | [], _ => ⟨by simp only [List.map_nil, PyData.showableAll], by simp only [List.map_nil, PyData.hasDictAll], by simp only [List.map_nil, PyData.depthAll]; omega, by simp only [List.map_nil, PyData.leavesShortAll], by simp only [List.map_nil, PyData.weightAll]; omega⟩
  | x :: xs, h => by
    have h1 := h x List.mem_cons_self
    obtain ⟨a1, a2, a3, a4, a5⟩ := all_okS f w (xs := xs) fun y hy => h y (List.mem_cons_of_mem _ hy)
    have w := h1.wt
    have dp := h1.dp
    refine ⟨?_, ?_, ?_, ?_, ?_⟩
    · simp only [List.map_cons, PyData.showableAll, h1.sh, a1, Bool.and_self]
    · simp only [List.map_cons, PyData.hasDictAll, h1.nd, a2, Bool.or_self]
    · simp only [List.map_cons, PyData.depthAll]
      omega
    · simp only [List.map_cons, PyData.leavesShortAll, h1.ls, a4, Bool.and_self]
    · simp only [List.map_cons, PyData.weightAll, List.sum_cons]
      omega
theorem okListS {α : Type} {k : Nat} (f : α → PyData) (w : α → Nat) {xs : List α} (h : ∀ x ∈ xs, Ok k (w x) (f x)) : Ok (k + 1) ((xs.map fun x => w x + 1).sum) (.list (xs.map f)) := by
  obtain ⟨a1, a2, a3, a4, a5⟩ := all_okS f w h
  exact ⟨by simp only [PyData.showable]; exact a1, by simp only [PyData.hasDict]; exact a2, by simp only [PyData.depth]; omega, by simp only [PyData.leavesShort]; exact a4, by simp only [PyData.weight]; exact a5⟩
theorem okTupS {α : Type} {k : Nat} (f : α → PyData) (w : α → Nat) {xs : List α} (h : ∀ x ∈ xs, Ok k (w x) (f x)) : Ok (k + 1) ((xs.map fun x => w x + 1).sum) (.tuple (xs.map f)) := by
  obtain ⟨a1, a2, a3, a4, a5⟩ := all_okS f w h
  exact ⟨by simp only [PyData.showable]; exact a1, by simp only [PyData.hasDict]; exact a2, by simp only [PyData.depth]; omega, by simp only [PyData.leavesShort]; exact a4, by simp only [PyData.weight]; exact a5⟩
/-- repr of a text, an int, data -/
def rReprV (K : PySem.W.Frag) : List V → Hp → VK → Prop := fun xs H Q => Gd.rRepr K xs H Q ∨ (∃ z : Str, xs = [V.str z] ∧ (reprText z).length ≤ sizeLine ∧ Q (.str (reprText z)) H) ∨ ∃ i : Int, xs = [V.int i] ∧ i.natAbs.log2 < 1920 ∧ Q (.str (Str.ofString (toString i))) H
theorem cr_reprV {X : Cx} (st : Gd.Still X.A) (hu : X.A.units + 70 < cLine) : CallR X (.builtin "repr") (rReprV X.K) := by
  intro pins s σ H xs us Q I r q
  rcases q with q | ⟨z, rfl, hz, q⟩ | ⟨i, rfl, hi, q⟩
  · exact Gd.cr_repr st hu pins s σ H xs us Q I r q
  · obtain ⟨u, rfl, ru⟩ := vals1 r
    obtain ⟨t, rfl⟩ := ru
    exact PySem.P.repr_of_str ⟨.str (reprText z), H, I.tok _, ⟨_, rfl⟩, q⟩ hz
  · obtain ⟨u, rfl, ru⟩ := vals1 r
    obtain ⟨t, rfl⟩ := ru
    exact PySem.P.repr_of_int hi ⟨.str (Str.ofString (toString i)), H, I.tok _, ⟨_, rfl⟩, q⟩
theorem shown_str (z : Str) : (PyData.str z).shown = reprText z := by simp only [PyData.shown]
theorem reprText_size {l : List Nat} (h : l.length ≤ 80000) (hc : ∀ c ∈ l, c < 16 ^ 8) : (reprText (S l)).length ≤ sizeLine := by
  have ok := Ok.str hc
  have := PyData.shown_le 200 (by decide) (.str (S l)) ok.ls
  have w := ok.wt
  rw [shown_str] at this
  rw [sizeLine_eq]
  omega
theorem c_reprD {K : PySem.W.Frag} {H : Hp} {a : Addr} {d : PyData} {Q : VK} {N : Nat} (hd : Dp K H (.ref a) d) (ok : Ok 60 N d) (hN : N ≤ 80000) (q : Q (.str d.shown) H) : rReprV K [V.ref a] H Q := .inl (c_repr hd ok hN q)
theorem c_reprS {K : PySem.W.Frag} {H : Hp} {l : List Nat} {Q : VK} (h : l.length ≤ 80000) (hc : ∀ c ∈ l, c < 16 ^ 8) (q : Q (.str (reprText (S l))) H) : rReprV K [V.str (S l)] H Q := .inr (.inl ⟨_, rfl, reprText_size h hc, q⟩)
theorem c_reprI {K : PySem.W.Frag} {H : Hp} {i : Int} {Q : VK} (h : i.natAbs < 2 ^ 64) (q : Q (.str (Str.ofString (toString i))) H) : rReprV K [V.int i] H Q := by
  refine .inr (.inr ⟨_, rfl, ?_, q⟩)
  by_cases z : i.natAbs = 0
  · rw [z]
    decide
  · exact (Nat.log2_lt z).mpr (Nat.lt_of_lt_of_le h (Nat.pow_le_pow_right (by decide) (by decide)))
end Rv

/-! Ps: static methods with keyword-only parameters; range with a step. -/
namespace Ps
open PySem PySem.Spec PyProof.Rows L2
section
def smKLeaf (C : Addr) (sp : Sp) (gV : List V → List V → List V) (E : XK) (t tk : TA) (σ : L2.St) (Q : VK) (x : V) (H1 : Hp) : Prop := x = .ref C ∧ t σ H1 fun vs H2 => tk σ H2 fun zs H3 => sp (gV vs zs) H3 Q E
def tSMethK (C : Addr) (sp : Sp) (gV : List V → List V → List V) (E : XK) (ta : TE) (t tk : TA) : TE := fun σ H Q => ta σ H (smKLeaf C sp gV E t tk σ Q)
theorem w_smethK {σ : L2.St} {H : Hp} {Q : VK} {C : Addr} {sp : Sp} {gV : List V → List V → List V} {E : XK} {ta : TE} {t tk : TA} (h : ta σ H (smKLeaf C sp gV E t tk σ Q)) : tSMethK C sp gV E ta t tk σ H Q := h
theorem c_smK {σ : L2.St} {H : Hp} {Q : VK} {C : Addr} {sp : Sp} {gV : List V → List V → List V} {E : XK} {t tk : TA} (q : t σ H fun vs H2 => tk σ H2 fun zs H3 => sp (gV vs zs) H3 Q E) : smKLeaf C sp gV E t tk σ Q (.ref C) H := ⟨rfl, q⟩
def smLeaf (C : Addr) (sp : Sp) (E : XK) (t : TA) (σ : L2.St) (Q : VK) (x : V) (H1 : Hp) : Prop := x = .ref C ∧ t σ H1 fun vs H2 => sp vs H2 Q E
theorem w_smeth {σ : L2.St} {H : Hp} {Q : VK} {C : Addr} {sp : Sp} {E : XK} {ta : TE} {t : TA} (h : ta σ H (smLeaf C sp E t σ Q)) : Pz.tSMeth C sp E ta t σ H Q := h
theorem c_sm {σ : L2.St} {H : Hp} {Q : VK} {C : Addr} {sp : Sp} {E : XK} {t : TA} (q : t σ H fun vs H2 => sp vs H2 Q E) : smLeaf C sp E t σ Q (.ref C) H := ⟨rfl, q⟩
def rg3Leaf (R : It → Hp → Prop) (vs : List V) (H1 : Hp) : Prop := ∃ (i j c : Int) (n : Nat), vs = [.int i, .int j, .int c] ∧ RgC i j c n ∧ R (Itc i c n) H1
theorem w_iRng3 {σ : L2.St} {H : Hp} {ta : TA} {R : It → Hp → Prop} (h : ta σ H (rg3Leaf R)) : iRng3 ta σ H R := h
/-- how many slices of m items len items give -/
def cdiv (l m : Nat) : Nat := if l = 0 then 0 else (l - 1) / m + 1
end
end Ps

/-! Rd: repr of a dict whose keys are texts or ints and whose values are flat. -/
namespace Rd
open PySem PySem.Spec PyProof.Rows L2 SX Rp
def keyD : Key → PyData
  | .inl i => .int i
  | .inr x => .str x
def flD : V → PyData
  | .int i => .int i
  | .str x => .str x
  | .bl b => .bool b
  | _ => .none
def Flat : V → Prop
  | .int _ => True
  | .str _ => True
  | .bl _ => True
  | .non => True
  | _ => False
def dD (kvs : List (Key × V)) : PyData := .dict (kvs.map fun p => (keyD p.1, flD p.2))
section
variable {prog : Program} {w : World} {h : Heap}
end
/-- repr of a text, an int, data, a dict -/
def rReprK (K : PySem.W.Frag) : List V → Hp → VK → Prop := fun xs H Q => Rv.rReprV K xs H Q ∨ ∃ (a : Addr) (kvs : List (Key × V)), xs = [V.ref a] ∧ H a = some (.dK kvs) ∧ (∀ p ∈ kvs, Flat p.2) ∧ (dD kvs).showable = true ∧ (dD kvs).depth ≤ 64 ∧ (dD kvs).shown.length ≤ sizeLine ∧ Q (.str (dD kvs).shown) H
/-! a tuple of flat values and of dicts with flat values -/
inductive DxE (H : Hp) : V → PyData → Prop
  | flat {v : V} : Flat v → DxE H v (flD v)
  | dict {a : Addr} {kvs : List (Key × V)} : H a = some (.dK kvs) → (∀ p ∈ kvs, Flat p.2) → DxE H (.ref a) (dD kvs)
inductive DxAll (H : Hp) : List V → List PyData → Prop
  | nil : DxAll H [] []
  | cons {v : V} {vs : List V} {d : PyData} {ds : List PyData} : DxE H v d → DxAll H vs ds → DxAll H (v :: vs) (d :: ds)
/-- repr of a text, an int, data, a dict, a tuple with dicts, None -/
def rReprX (K : PySem.W.Frag) : List V → Hp → VK → Prop := fun xs H Q => rReprK K xs H Q ∨ (∃ (a : Addr) (vs : List V) (ds : List PyData), xs = [V.ref a] ∧ SqT K H a vs ∧ DxAll H vs ds ∧ (PyData.tuple ds).showable = true ∧ (PyData.tuple ds).depth ≤ 64 ∧ (PyData.tuple ds).shown.length ≤ sizeLine ∧ Q (.str (PyData.tuple ds).shown) H) ∨ (xs = [V.non] ∧ Q (.str "None") H)
end Rd
/-! x is True -/
namespace Rd
open PySem PySem.Spec PyProof.Rows L2
def rIsT : R2 := fun x y H Q => ∃ b : Bool, y = .bl b ∧ (x = .non ∨ (∃ c, x = .bl c) ∨ (∃ i, x = .int i) ∨ (∃ z, x = .str z) ∨ ∃ a, x = .ref a) ∧ Q (.bl (decide (x = .bl b))) H
end Rd

/-! Ex2: raise C(y, z): C's own __init__ stores two fields. -/
namespace Ex
open PySem PySem.Spec PyProof.Rows L2
def spX2 (C : Addr) (f g : Str) : Sp := fun vs H Q _ => ∃ (a : Addr) (y z : V), vs = [.ref a, y, z] ∧ H a = some (exo a C none) ∧ ∀ dx, H dx = none → dx ≠ a →
  Q .non (upd (upd (upd H dx (exd dx [(f, y)])) a (exo a C (some dx))) dx (exd dx [(g, z), (f, y)]))
theorem c_mk2 {H : Hp} {C : Addr} {f g : Str} {y z : V} {Q : XK} (q : ∀ d, H d = none → Q (.ref C) (some d) (upd H d (.xd [(g, z), (f, y)]))) : mkLeaf C (spX2 C f g) [] Q [y, z] H := by
  refine ⟨by show 2 ≤ 1000; decide, fun a ha => ⟨a, y, z, rfl, upd_same, fun dx hdx hne => ⟨rfl, dx, [(g, z), (f, y)], ?_, upd_same, ?_, ?_⟩⟩⟩
  · rw [upd_ne (fun h => hne h.symm), upd_same]
  · rw [upd_ne hne] at hdx
    exact hdx
  · rw [upd_ne hne] at hdx
    have e : upd (del (upd (upd (upd (upd H a (exo a C none)) dx (exd dx [(f, y)])) a (exo a C (some dx))) dx (exd dx [(g, z), (f, y)])) a) dx (.xd [(g, z), (f, y)]) = upd H dx (.xd [(g, z), (f, y)]) := by
      funext b
      by_cases h1 : b = dx
      · rw [h1, upd_same, upd_same]
      · rw [upd_ne h1, upd_ne h1]
        by_cases h2 : b = a
        · rw [h2, del_same, ha]
        · rw [del_ne h2, upd_ne h1, upd_ne h2, upd_ne h1, upd_ne h2]
    rw [e]
    exact q dx hdx
end Ex

/-! Xh: a caught exception handed to a def; isinstance of it there. -/
namespace Xh
open PySem PySem.Spec PyProof.Rows L2 Ex
/-- a known object, as a thing of the abstract heap -/
def xo (a : Addr) (oe : Obj) : HO := .ext fun h => h.get? a = some oe
/-! defs that are called while an exception is handled -/
structure RoomC (k : Nat) (A : Around) : Prop where
  dp : A.depth + 3 * k + 5 < recursionLimit
  un : A.units + 16 * k + 200 < cLine
theorem RoomC.deeper {k : Nat} {A : Around} (r : RoomC (k + 1) A) (env : Env) : RoomC k (A.deeper env) := by
  obtain ⟨h1, h2⟩ := r
  refine ⟨?_, ?_⟩
  · show A.depth + 1 + 3 * k + 5 < _
    omega
  · show A.units + 3 + 16 * k + 200 < _
    omega
theorem RoomC.depth {k : Nat} {A : Around} (r : RoomC k A) : A.depth < recursionLimit := by have h := r.dp; omega
theorem RoomC.units {k : Nat} {A : Around} (r : RoomC k A) : A.units + 64 < cLine := by have h := r.un; omega
structure FnC (P : Program) (w : World) (K : PySem.W.Frag) (mg : Str → Option Value) (base : Heap) (k : Nat) (f : Addr) (fd : FuncData) (ps : List Str) (sp : Sp) : Prop where
  lenC : ∀ vs H Q E, sp vs H Q E → vs.length = ps.length
  runC : ∀ (A : Around) (out : List Env) (s : Shared) (H : Hp) (ar : Args) (us : List Value) (vs : List V) (Q : VK) (E : XK), RoomC k A → Env0 P w K mg base A out s H → BindsTo s fd ar (ps.zip us) → Vals vs us →
    sp vs H Q E → codeAny (model P w) A (.call (.ref f) ar) (CR CX0 out P w H s Q E) s
/-- the context of such a def's body -/
abbrev cxC (P : Program) (w : World) (K : PySem.W.Frag) (mg : Str → Option Value) (base : Heap) (N : List Str) (qual : Str) (scope : Scope) (f : Addr) (cd : Value) (A : Around) (out : List Env) (s : Shared) (H : Hp) (E : XK) : Cx :=
  { (cxOf CX0 P w K mg base N qual scope f cd A out s H E).nox with calm := false }
theorem okC {P : Program} {w : World} {K : PySem.W.Frag} {mg : Str → Option Value} {base : Heap} {k : Nat} {f : Addr} {fd : FuncData} {ps : List Str} {sp : Sp} {x qual : Str} {st : Stmt} {N : List Str} (F : Fun K x qual st f fd) (S : FnScope N ps (defScope st)) (len : ∀ vs H Q E, sp vs H Q E → vs.length = ps.length)
    (body : ∀ (cdv : Value) (A : Around) (out : List Env) (s : Shared) (H : Hp) (vs : List V) (Q : VK) (E : XK), RoomC k (A.deeper (envOfC qual (defScope st) s.heap.objs.size f cdv)) → sp vs H Q E →
      ∃ t, PSs (cxC P w K mg base N qual (defScope st) f cdv A out s H E) (defBody st) t ∧ t { nx := fun _ H' => Q .non H', rt := Q } (start N vs) H) : FnC P w K mg base (k + 1) f fd ps sp := by
  obtain ⟨oc, od, kV, doc, pm, an, cdv, ct, osl, rfl, lk, hcd⟩ := F.ex
  refine ⟨len, ?_⟩
  intro A out s H ar us vs Q E hr e0 hb r hs
  have hlen := len _ _ _ _ hs
  have kin : K.In s.heap := e0.mod.kin.keeps fun b o z => (e0.bs b o z).1
  have nol : s.heap.NoLimit := e0.mod.nolimit.keeps fun b o z => (e0.bs b o z).1
  have kinds : ∀ y ∈ ps.zip us, (defScope st).names.lookup y.1 = some .local ∨ ((defScope st).names.lookup y.1 = some .cell ∧ ((cellsFrom (s.heap.objs.size + 1) (defScope st).names []).lookup y.1).isSome = true) := by
    rintro ⟨n, v⟩ hy
    exact (S.par n (List.of_mem_zip hy).1).elim .inl fun q => .inr ⟨q, PySem.W.cellsFrom_some _ _ _ (.inl q)⟩
  refine codeAny_call_function hr.depth (kin _ _ lk) rfl S.co S.gen rfl (PySem.W.codeRec_of kin hcd) (hb _ _ _ _ (wpAny_newFunctionEnv_cells S.kind kinds fun env he s1 x => ?_))
  subst he
  obtain ⟨t, ht, q⟩ := body cdv A out s H vs Q E (hr.deeper _) hs
  have e1 : Env0 P w K mg base { A with handled := none } out s H := ⟨e0.frames, e0.mod, e0.bs, e0.bsz, e0.funs, e0.frf, e0.hok, e0.bare⟩
  have I0 : Inv (cxOf CX0 P w K mg base N qual (defScope st) f cdv { A with handled := none } out s H E) [] (start N vs) H s1 := inv_start S rfl e1 hlen r x
  have I : Inv (cxC P w K mg base N qual (defScope st) f cdv A out s H E) [] (start N vs) H s1 := by
    obtain ⟨⟨a1, a2, a3, a4, a5, a6, a7, a8, _, _, a11, a12, a13, a14, a15, a16, a17, a18⟩, b2, b3, b4, b5, b6, b7, b8, b9, b10, b11⟩ := I0
    exact ⟨⟨a1, a2, a3, a4, a5, a6, a7, a8, (fun z => Bool.noConfusion (show false = true from z)), Around.frames_deeper e0.frames, a11, a12, a13, a14, a15, a16, a17, a18⟩, b2, b3, b4, b5, b6, b7, b8, b9, b10, b11⟩
  refine ⟨nol.keeps x.toInCall.keep, codeAny_func (wpAny_mono (ht.run [] s1 (start N vs) H _ I q) (fun fl s' z => ?_) fun e s' z => False.elim z)⟩
  cases fl with
  | ret u => exact let ⟨v, _, H', J, rv, y⟩ := z; (⟨v, H', J.os, J.bare, J.base, J.hok, rv, y⟩ : CE out P w H s Q u s')
  | next => exact let ⟨_, H', J, y⟩ := z; (⟨V.non, H', J.os, J.bare, J.base, J.hok, rfl, y⟩ : CE out P w H s Q Value.none s')
  | brk => exact let ⟨_, _, _, y⟩ := z; False.elim y
  | cont => exact let ⟨_, _, _, y⟩ := z; False.elim y
section
variable {X : Cx} {CX : CXT} {k : Nat} {f : Addr} {fd : FuncData} {ps : List Str} {sp : Sp} {dvs : List V} {ds : List Value} {E : XK} {x : Str} {p pos : Pos} {e : Expr} {es : List Expr} {t : TA} {a : Addr} {oe : Obj} {cls : Value} {d : Option Addr} {pn : List (Addr × Obj)}
def haLeaf (a : Addr) (cls : Value) (d : Option Addr) (sp : Sp) (dvs : List V) (E : XK) (Q : VK) (vs : List V) (H1 : Hp) : Prop :=
  ∀ oe : Obj, Zc cls d oe → (∃ vs, oe.data = .fields vs) → H1 a = none → sp (vs ++ dvs) (upd H1 a (xo a oe)) (fun v H2 => H2 a = some (xo a oe) ∧ Q v (del H2 a)) E
def tCallH (a : Addr) (cls : Value) (d : Option Addr) (sp : Sp) (dvs : List V) (E : XK) (t : TA) : TE := fun σ H Q => t σ H (haLeaf a cls d sp dvs E Q)
/-- isinstance(e, c), e an exception that was handed over -/
def rIsH (K : PySem.W.Frag) : List V → Hp → VK → Prop := fun xs H Q => ∃ (a D dd : Addr) (oe : Obj) (fs : List (Str × V)) (c : V) (cv : Value) (b : Bool), xs = [.ref a, c] ∧ H a = some (xo a oe) ∧ Zc (.ref D) (some dd) oe ∧ (∃ vs, oe.data = .fields vs) ∧ H dd = some (.xd fs) ∧ XcC K D ∧
  (∀ u, RelV c u → u = cv) ∧ PySem.W.kitOne K (.ref D) cv = some b ∧ Q (.bl b) H
end
section
variable {σ : L2.St} {H H1 : Hp} {Q : VK} {a : Addr} {cls : Value} {d : Option Addr} {sp : Sp} {dvs vs : List V} {E : XK} {t : TA}
theorem w_callH (h : t σ H (haLeaf a cls d sp dvs E Q)) : tCallH a cls d sp dvs E t σ H Q := h
/-- what is told of an exception that was handed over -/
def IsX (H : Hp) (a D dd : Addr) (fs : List (Str × V)) : Prop := ∃ oe : Obj, H a = some (xo a oe) ∧ Zc (.ref D) (some dd) oe ∧ (∃ vs, oe.data = .fields vs) ∧ H dd = some (.xd fs)
theorem IsX.keep {a D dd : Addr} {fs : List (Str × V)} (h : IsX H a D dd fs) (s : Same H H1) : IsX H1 a D dd fs :=
  let ⟨oe, h1, h2, h3, h4⟩ := h
  ⟨oe, s _ _ h1, h2, h3, s _ _ h4⟩
end
end Xh

/-! Rn: repr of data with dicts at any place. -/
namespace Rn
open PySem PySem.Spec PyProof.Rows L2 SX Rp
mutual
inductive Dn (K : PySem.W.Frag) (H : Hp) : V → PyData → Prop
  | non : Dn K H .non .none
  | bl (b : Bool) : Dn K H (.bl b) (.bool b)
  | int (i : Int) : Dn K H (.int i) (.int i)
  | str (x : Str) : Dn K H (.str x) (.str x)
  | lst {a : Addr} {xs : List V} {ds : List PyData} : SqL K H a xs → DnAll K H xs ds → Dn K H (.ref a) (.list ds)
  | tup {a : Addr} {xs : List V} {ds : List PyData} : SqT K H a xs → DnAll K H xs ds → Dn K H (.ref a) (.tuple ds)
  | dic {a : Addr} {kvs : List (Key × V)} {es : List (PyData × PyData)} : H a = some (.dK kvs) → es.map (·.1) = (kvs.map fun p => Rd.keyD p.1) → DnAll K H (kvs.map (·.2)) (es.map (·.2)) → Dn K H (.ref a) (.dict es)
inductive DnAll (K : PySem.W.Frag) (H : Hp) : List V → List PyData → Prop
  | nil : DnAll K H [] []
  | cons {v : V} {vs : List V} {d : PyData} {ds : List PyData} : Dn K H v d → DnAll K H vs ds → DnAll K H (v :: vs) (d :: ds)
end
/-- what is told of a value and its data -/
structure Rep (P : Program) (w : World) (h0 : Heap) (u : Value) (d : PyData) : Prop where
  rd : ∃ as, Reads h0 u d as
  un : d.showable = true → d.shown.length ≤ sizeLine → ∃ bs, ReadAtMost h0 d.depth bs ∧ ReprK P w bs h0 d.depth u d.shown
  top : d.showable = true → d.shown.length ≤ sizeLine → ∀ (A : Around) (E : Value → Shared → Prop) (s : Shared) (Q : Value → Shared → Prop), A.guards = some [] → A.units + (d.depth + 1) < cLine → (∀ b o, h0.get? b = some o → s.heap.get? b = some o) →
    (∀ h' t tk, (∀ b o, s.heap.get? b = some o → h'.get? b = some o) → Q (.str d.shown t) { s with heap := h', toks := tk }) → wpAny (model P w) A (call (.builtin "repr") [u]) Q E s
structure RepAll (P : Program) (w : World) (h0 : Heap) (us : List Value) (ds : List PyData) : Prop where
  rd : ∃ as, ReadsAll h0 us ds as
  un : PyData.showableAll ds = true → (∀ t ∈ PyData.shownAll ds, t.length ≤ sizeLine) → ∃ bs, ReadAtMost h0 (PyData.depthAll ds) bs ∧ ReprAllK P w bs h0 (PyData.depthAll ds) us (PyData.shownAll ds)
section
variable {P : Program} {w : World} {h0 : Heap}
theorem nil_of {bs : List Addr} {n : Nat} {ts : List Str} (k : ReprAllK P w bs h0 n [] ts) : ts = [] := by
  cases k
  rfl
theorem rep_nil : RepAll P w h0 [] [] := ⟨⟨_, .nil⟩, fun _ _ => ⟨[], (fun _ h => nomatch h), by simp only [PyData.shownAll]; exact .nil⟩⟩
theorem rep_cons {u : Value} {us : List Value} {d : PyData} {ds : List PyData} (a : Rep P w h0 u d) (r : RepAll P w h0 us ds) : RepAll P w h0 (u :: us) (d :: ds) := by
  obtain ⟨as, ra⟩ := a.rd
  obtain ⟨bs, rb⟩ := r.rd
  refine ⟨⟨_, .cons ra rb⟩, fun sh hz => ?_⟩
  have sh' : d.showable = true ∧ PyData.showableAll ds = true := by simpa [PyData.showableAll] using sh
  obtain ⟨c1, m1, k1⟩ := a.un sh'.1 (hz _ (by rw [PyData.shownAll]; exact List.mem_cons_self))
  obtain ⟨c2, m2, k2⟩ := r.un sh'.2 (fun t ht => hz t (by rw [PyData.shownAll]; exact List.mem_cons_of_mem _ ht))
  rw [PyData.depthAll, PyData.shownAll]
  exact ⟨c1 ++ c2, (m1.mono (Nat.le_max_left _ _)).append (m2.mono (Nat.le_max_right _ _)), .cons ((k1.more fun b hb => List.mem_append.mpr (.inl hb)).level_le (Nat.le_max_left _ _)) (k2.more_le (fun b hb => List.mem_append.mpr (.inr hb)) (Nat.le_max_right _ _))⟩
theorem rep_list {a : Addr} {o : Obj} {its : List Value} {n : Nat} {ds : List PyData} (h1 : h0.get? a = some o) (h2 : o.cls = .type "list") (h3 : o.data = .seq its.toArray n) (r : RepAll P w h0 its ds) : Rep P w h0 (.ref a) (.list ds) := by
  obtain ⟨as, ra⟩ := r.rd
  have rd : Reads h0 (.ref a) (.list ds) (a :: as) := .list h1 h2 h3 ra
  have key : (PyData.list ds).showable = true → (PyData.list ds).shown.length ≤ sizeLine → ∃ bs, ReadAtMost h0 (PyData.depthAll ds) bs ∧ a ∉ bs ∧ ReprAllK P w bs h0 (PyData.depthAll ds) its (PyData.shownAll ds) ∧ (listText (PyData.shownAll ds)).length ≤ sizeLine := fun sh hz => by
    have hz' : (listText (PyData.shownAll ds)).length ≤ sizeLine := by simpa only [PyData.shown] using hz
    obtain ⟨bs, m, k⟩ := r.un (by simpa [PyData.showable] using sh) (fun t ht => Nat.le_trans (listText_mem_le ht) hz')
    exact ⟨bs, m, not_mem_of_deeper rd (by rw [PyData.depth]; omega) m, k, hz'⟩
  refine ⟨⟨_, rd⟩, fun sh hz => ?_, fun sh hz A E s Q hg hu hk hQ => ?_⟩
  · obtain ⟨bs, m, na, k, hz'⟩ := key sh hz
    refine ⟨a :: bs, ReadAtMost.cons rd (by rw [PyData.depth]; omega) m, ?_⟩
    rw [PyData.depth, PyData.shown]
    cases its with
    | nil =>
      rw [nil_of k, listText_nil]
      exact ReprK.listEmpty h1 h2 h3
    | cons x l => exact ReprK.list h1 h2 h3 na (by simpa using k.length_eq) (fun i y e => k.item i y (by simpa using e))
  · obtain ⟨bs, m, na, k, hz'⟩ := key sh hz
    rw [PyData.depth] at hu
    simp only [PyData.shown] at hQ
    refine call_repr_slot (T := "list") (by omega) ⟨o, hk _ _ h1, h2⟩ F.slot_list_repr.toG ?_
    cases its with
    | nil =>
      rw [nil_of k, listText_nil] at hQ
      exact call_list_repr_empty ⟨o, hk _ _ h1, h2⟩ (hk _ _ h1) h3 ⟨_, _, rfl, hQ s.heap _ _ fun _ _ e => e⟩
    | cons x l =>
      exact call_list_reprK h1 h2 h3 na (by simpa using k.length_eq) (fun i y e => k.item i y (by simpa using e)) hg (fun b _ => Clear.nil b) (by show A.units + 1 + (_ + 1) < cLine; omega) hk (fun h' t tk hk' => ⟨_, _, rfl, hQ h' t tk hk'⟩) hz'
theorem rep_tup {a : Addr} {o : Obj} {its : List Value} {n : Nat} {ds : List PyData} (h1 : h0.get? a = some o) (h2 : o.cls = .type "tuple") (h3 : o.data = .seq its.toArray n) (r : RepAll P w h0 its ds) : Rep P w h0 (.ref a) (.tuple ds) := by
  obtain ⟨as, ra⟩ := r.rd
  have rd : Reads h0 (.ref a) (.tuple ds) as := .tuple h1 h2 h3 ra
  have key : (PyData.tuple ds).showable = true → (PyData.tuple ds).shown.length ≤ sizeLine → ∃ bs, ReadAtMost h0 (PyData.depthAll ds) bs ∧ a ∉ bs ∧ ReprAllK P w bs h0 (PyData.depthAll ds) its (PyData.shownAll ds) ∧ (tupleText (PyData.shownAll ds)).length ≤ sizeLine := fun sh hz => by
    have hz' : (tupleText (PyData.shownAll ds)).length ≤ sizeLine := by simpa only [PyData.shown] using hz
    obtain ⟨bs, m, k⟩ := r.un (by simpa [PyData.showable] using sh) (fun t ht => Nat.le_trans (tupleText_mem_le ht) hz')
    exact ⟨bs, m, not_mem_of_deeper rd (by rw [PyData.depth]; omega) m, k, hz'⟩
  refine ⟨⟨_, rd⟩, fun sh hz => ?_, fun sh hz A E s Q hg hu hk hQ => ?_⟩
  · obtain ⟨bs, m, na, k, hz'⟩ := key sh hz
    refine ⟨a :: bs, ReadAtMost.cons rd (by rw [PyData.depth]; omega) m, ?_⟩
    rw [PyData.depth, PyData.shown]
    exact ReprK.tuple h1 h2 h3 na k
  · obtain ⟨bs, m, na, k, hz'⟩ := key sh hz
    rw [PyData.depth] at hu
    simp only [PyData.shown] at hQ
    refine call_repr_slot (T := "tuple") (by omega) ⟨o, hk _ _ h1, h2⟩ F.slot_tuple_repr ?_
    exact call_tuple_reprK h1 h2 h3 na k hg (fun b _ => Clear.nil b) (by show A.units + 1 + (_ + 1) < cLine; omega) hk (fun h' t tk hk' => ⟨_, _, rfl, hQ h' t tk hk'⟩) hz'
theorem rep_dict {a : Addr} {o : Obj} {es : Array DictEntry} {n : Nat} {kvs : List (PyData × PyData)} (hs : (a == sysModules) = false) (h1 : h0.get? a = some o) (h2 : o.cls = .type "dict") (h3 : o.data = .dict es n) (r1 : RepAll P w h0 (es.toList.map (·.key)) (kvs.map (·.1))) (r2 : RepAll P w h0 (es.toList.map (·.val)) (kvs.map (·.2))) : Rep P w h0 (.ref a) (.dict kvs) := by
  obtain ⟨as, ra⟩ := r1.rd
  obtain ⟨bs, rb⟩ := r2.rd
  have rd : Reads h0 (.ref a) (.dict kvs) (a :: as ++ bs) := .dict h1 h2 h3 ra rb
  have key : (PyData.dict kvs).showable = true → (PyData.dict kvs).shown.length ≤ sizeLine → ∃ bs, ReadAtMost h0 (PyData.depthKv kvs) bs ∧ a ∉ bs ∧ ReprEntriesK P w bs h0 (PyData.depthKv kvs) es.toList (List.zipWith (fun k v : Str => k ++ ": " ++ v) (PyData.shownAll (kvs.map (·.1))) (PyData.shownAll (kvs.map (·.2)))) ∧ (dictText (PyData.shownKv kvs)).length ≤ sizeLine := fun sh hz => by
    have hz' : (dictText (PyData.shownKv kvs)).length ≤ sizeLine := by simpa only [PyData.shown] using hz
    obtain ⟨s1, s2⟩ := PyData.showableKv_split kvs (by simpa [PyData.showable] using sh)
    have le : ∀ {p t : Str}, p ∈ PyData.shownKv kvs → t.length ≤ p.length → t.length ≤ sizeLine := fun hp hl => Nat.le_trans hl (Nat.le_trans (dictText_mem_le hp) hz')
    obtain ⟨b1, m1, k1⟩ := r1.un s1 fun t ht => let ⟨p, hp, hl⟩ := PyData.shownKv_key_le kvs t ht; le hp hl
    obtain ⟨b2, m2, k2⟩ := r2.un s2 fun t ht => let ⟨p, hp, hl⟩ := PyData.shownKv_val_le kvs t ht; le hp hl
    have m := (m1.mono (PyData.depthAll_keys_le kvs)).append (m2.mono (PyData.depthAll_vals_le kvs))
    exact ⟨_, m, not_mem_of_deeper rd (by rw [PyData.depth]; omega) m, ReprEntriesK.of_two es.toList _ _ (k1.more_le (fun b hb => List.mem_append.mpr (.inl hb)) (PyData.depthAll_keys_le kvs)) (k2.more_le (fun b hb => List.mem_append.mpr (.inr hb)) (PyData.depthAll_vals_le kvs)), hz'⟩
  refine ⟨⟨_, rd⟩, fun sh hz => ?_, fun sh hz A E s Q hg hu hk hQ => ?_⟩
  · obtain ⟨bs, m, na, k, hz'⟩ := key sh hz
    refine ⟨a :: bs, ReadAtMost.cons rd (by rw [PyData.depth]; omega) m, ?_⟩
    rw [PyData.depth, PyData.shown, PyData.shownKv_eq]
    exact ReprK.dict h1 h2 h3 hs na k
  · obtain ⟨bs, m, na, k, hz'⟩ := key sh hz
    rw [PyData.depth] at hu
    simp only [PyData.shown, PyData.shownKv_eq] at hQ
    rw [PyData.shownKv_eq] at hz'
    refine call_repr_slot (T := "dict") (by omega) ⟨o, hk _ _ h1, h2⟩ F.slot_dict_repr ?_
    exact call_dict_reprK h1 h2 h3 hs na k hg (fun b _ => Clear.nil b) (by show A.units + 1 + (_ + 1) < cLine; omega) hk (fun h' t tk hk' => ⟨_, _, rfl, hQ h' t tk hk'⟩) hz'
theorem rep_int (i : Int) (t : Tok) : Rep P w h0 (.int i t) (.int i) := by
  refine ⟨⟨_, .int i t⟩, fun sh _ => ⟨[], (fun _ h => nomatch h), ?_⟩, fun sh _ A E s Q _ _ _ hQ => ?_⟩
  · rw [PyData.shown]
    exact .of_is (ReprIs.int t (by simpa [PyData.showable] using sh)) _ _ _
  · simp only [PyData.shown] at hQ
    exact PySem.P.repr_of_int (by simpa [PyData.showable] using sh) (hQ s.heap _ _ fun _ _ e => e)
theorem rep_str (x : Str) (t : Tok) : Rep P w h0 (.str x t) (.str x) := by
  refine ⟨⟨_, .str x t⟩, fun _ hz => ⟨[], (fun _ h => nomatch h), ?_⟩, fun _ hz A E s Q _ _ _ hQ => ?_⟩
  · rw [PyData.shown] at hz ⊢
    exact .of_is (ReprIs.str x t hz) _ _ _
  · simp only [PyData.shown] at hQ hz
    exact PySem.P.repr_of_str (hQ s.heap _ _ fun _ _ e => e) hz
theorem rep_bool (b : Bool) : Rep P w h0 (.bool b) (.bool b) := by
  refine ⟨⟨_, .bool b⟩, fun _ _ => ⟨[], (fun _ h => nomatch h), ?_⟩, fun _ _ A E s Q _ _ _ hQ => ?_⟩
  · rw [PyData.shown]
    exact .of_is (ReprIs.bool b) _ _ _
  · simp only [PyData.shown] at hQ
    exact PySem.P.repr_of_bool (hQ s.heap _ _ fun _ _ e => e)
theorem rep_none : Rep P w h0 .none .none := by
  refine ⟨⟨_, .none⟩, fun _ _ => ⟨[], (fun _ h => nomatch h), ?_⟩, fun _ _ A E s Q _ _ _ hQ => ?_⟩
  · rw [PyData.shown]
    exact .of_is ReprIs.none _ _ _
  · simp only [PyData.shown] at hQ
    exact PySem.P.repr_of_none (hQ s.heap _ _ fun _ _ e => e)
theorem rep_keys (h0 : Heap) : ∀ {es : List DictEntry} {vs : List (Key × Value)} {kvs : List (Key × V)}, Pairs (mixKind P w) es vs → KV kvs vs → RepAll P w h0 (es.map (·.key)) (kvs.map fun p => Rd.keyD p.1)
  | _, _, _, .nil, .nil => rep_nil
  | e :: _, q :: _, p :: _, .cons h1 _ r, .cons a k => by
    have ih := rep_keys h0 r k
    have h1 : keyIs q.1 e.key = true := h1
    refine rep_cons (u := e.key) ?_ ih
    show Rep P w h0 e.key (Rd.keyD p.1)
    rw [a.1]
    rcases keyIs_shape h1 with ⟨i, t, e1, e2⟩ | ⟨x, t, e1, e2⟩
    · rw [e1, e2]
      exact rep_int i t
    · rw [e1, e2]
      exact rep_str x t
theorem vals_of : ∀ {es : List DictEntry} {vs : List (Key × Value)} {kvs : List (Key × V)}, Pairs (mixKind P w) es vs → KV kvs vs → Vals (kvs.map (·.2)) (es.map (·.val))
  | _, _, _, .nil, .nil => .nil
  | e :: _, q :: _, p :: _, .cons _ h2 r, .cons a k => by
    have h2 : e.val = q.2 := h2
    exact .cons (by show RelV p.2 e.val; rw [h2]; exact a.2) (vals_of r k)
end
theorem dn_rep {X : Cx} {pins : List (Addr × Obj)} {σ : L2.St} {H : Hp} {s : Shared} (I : Inv X pins σ H s) {v : V} {d : PyData} (h : Dn X.K H v d) : ∀ u, RelV v u → Rep X.prog X.w s.heap u d := by
  refine Dn.rec (motive_1 := fun v d _ => ∀ u, RelV v u → Rep X.prog X.w s.heap u d) (motive_2 := fun vs ds _ => ∀ us, Vals vs us → RepAll X.prog X.w s.heap us ds) ?_ ?_ ?_ ?_ ?_ ?_ ?_ ?_ ?_ h
  · intro u r
    cases r
    exact rep_none
  · intro b u r
    cases r
    exact rep_bool b
  · intro i u r
    obtain ⟨t, rfl⟩ := r
    exact rep_int i t
  · intro x u r
    obtain ⟨t, rfl⟩ := r
    exact rep_str x t
  · intro a xs ds hs _ ih u r
    cases r
    obtain ⟨its, rv, ⟨o, n, ho, hc, _, hd⟩, _⟩ := I.list hs
    exact rep_list ho hc hd (ih _ rv)
  · intro a xs ds hs _ ih u r
    cases r
    obtain ⟨its, rv, ⟨o, ho, hc, n, hd⟩, _⟩ := I.tuple hs
    exact rep_tup ho hc hd (ih _ rv)
  · intro a kvs es ha he _ ih u r
    cases r
    obtain ⟨_, hne, vs, kv, o, en, ep, ho, hc, hd, _, hp, _⟩ := (show ObjOk X.prog X.w H s.heap a (.dK kvs) from I.hok a _ ha)
    refine rep_dict hne ho hc.1 hd ?_ (ih _ (vals_of hp kv))
    rw [he]
    exact rep_keys _ hp kv
  · intro us r
    cases r
    exact rep_nil
  · intro v vs d ds _ _ ih1 ih2 us r
    cases r with
    | cons r1 r2 => exact rep_cons (ih1 _ r1) (ih2 _ r2)
def rReprN (K : PySem.W.Frag) : List V → Hp → VK → Prop := fun xs H Q => ∃ (v : V) (d : PyData), xs = [v] ∧ Dn K H v d ∧ d.showable = true ∧ d.depth ≤ 60 ∧ d.shown.length ≤ sizeLine ∧ Q (.str d.shown) H
theorem cr_reprN {X : Cx} (st : Gd.Still X.A) (hu : X.A.units + 70 < cLine) : CallR X (.builtin "repr") (rReprN X.K) := by
  intro pins s σ H xs us Q I r q
  obtain ⟨v, d, rfl, hd, sh, dp, sz, q⟩ := q
  obtain ⟨u, rfl, ru⟩ := vals1 r
  exact (dn_rep I hd u ru).top sh sz _ _ _ _ st (by omega) (fun _ _ e => e) fun h' t tk hk => ⟨.str d.shown, H, I.kept hk, ⟨t, rfl⟩, q⟩
/-! sizes -/
structure Okn (k N : Nat) (d : PyData) : Prop where
  sh : d.showable = true
  dp : d.depth ≤ k
  ls : d.leavesShort 200 = true
  wt : d.weight ≤ N
theorem Okn.of {k N : Nat} {d : PyData} (h : Ok k N d) : Okn k N d := ⟨h.sh, h.dp, h.ls, h.wt⟩
theorem Okn.mono {k k' N N' : Nat} {d : PyData} (h : Okn k N d) (hk : k ≤ k') (hN : N ≤ N') : Okn k' N' d := ⟨h.sh, Nat.le_trans h.dp hk, h.ls, Nat.le_trans h.wt hN⟩
theorem c_reprN {K : PySem.W.Frag} {H : Hp} {v : V} {d : PyData} {Q : VK} {N : Nat} (hd : Dn K H v d) (ok : Okn 60 N d) (hN : N ≤ 80000) (q : Q (.str d.shown) H) : rReprN K [v] H Q := by
  refine ⟨v, d, rfl, hd, ok.sh, ok.dp, ?_, q⟩
  have := PyData.shown_le 200 (by decide) d ok.ls
  have w := ok.wt
  rw [sizeLine_eq]
  omega
end Rn

/-! Lc: list.count of a truth in a list of truths. -/
namespace Lc
open PySem PySem.Spec PyProof.Rows L2
def rCntB (K : PySem.W.Frag) : V → List V → Hp → VK → Prop := fun x xs H Q => ∃ (p : Addr) (bs : List Bool) (b : Bool), x = .ref p ∧ xs = [.bl b] ∧ SqL K H p (bs.map V.bl) ∧ Q (.int (bs.count b : Nat)) H
/-! d != {} of a dict with any values -/
def rNe0 : R2 := fun x y H Q => ∃ (a b : Addr) (ks : List (Key × V)), x = .ref a ∧ y = .ref b ∧ H a = some (.dK ks) ∧ H b = some (.dK []) ∧ Q (.bl (!ks.isEmpty)) H
end Lc

/-! Xc: C.m(e, ..) of a classmethod inside a try; two promises of one def. -/
namespace Xc
open PySem PySem.Spec PyProof.Rows L2
def cmSLeaf (C : Addr) (sp : Sp) (E : L2.St → XK) (t : TA) (σ : L2.St) (Q : VK) (x : V) (H1 : Hp) : Prop := x = .ref C ∧ t σ H1 fun vs H2 => sp (.ref C :: vs) H2 Q (E σ)
def tCMethS (C : Addr) (sp : Sp) (E : L2.St → XK) (ta : TE) (t : TA) : TE := fun σ H Q => ta σ H (cmSLeaf C sp E t σ Q)
section
variable {X : Cx} {CX : CXT} {k : Nat} {C p g : Addr} {mc : Value} {sp : Sp} {E : L2.St → XK} {o e : Expr} {es : List Expr} {m : Str} {pos apos : Pos} {ta : TE} {t : TA} {pl : Sem Bool}
theorem w_cmethS {σ : L2.St} {H : Hp} {Q : VK} (h : ta σ H (cmSLeaf C sp E t σ Q)) : tCMethS C sp E ta t σ H Q := h
theorem c_cmS {σ : L2.St} {H : Hp} {Q : VK} (h : t σ H fun vs H2 => sp (.ref C :: vs) H2 Q (E σ)) : cmSLeaf C sp E t σ Q (.ref C) H := ⟨rfl, h⟩
end
section
variable {P : Program} {w : World} {K : PySem.W.Frag} {mg : Str → Option Value} {base : Heap} {CX : CXT} {k : Nat} {f : Addr} {fd : FuncData} {ps : List Str} {sp sq : Sp}
/-- a def that lets nothing out, where exceptions may be let out -/
theorem up (F : FnOk P w K mg base CX0 k f fd ps sp) : FnOk P w K mg base CX k f fd ps sp := by
  refine ⟨F.len, fun A outer s H args us vs Q E hr he hb hv hs => codeAny_mono (F.run A outer s H args us vs Q E hr he hb hv hs) fun r s' hq => ?_⟩
  cases r with
  | error e => exact False.elim hq
  | ok fl => cases fl <;> exact hq
/-- two promises -/
theorem or (F : FnOk P w K mg base CX k f fd ps sp) (G : FnOk P w K mg base CX k f fd ps sq) : FnOk P w K mg base CX k f fd ps (fun vs H Q E => sp vs H Q E ∨ sq vs H Q E) :=
  ⟨fun vs H Q E h => h.elim (F.len vs H Q E) (G.len vs H Q E), fun A outer s H args us vs Q E hr he hb hv hs => hs.elim (F.run A outer s H args us vs Q E hr he hb hv) (G.run A outer s H args us vs Q E hr he hb hv)⟩
end
end Xc

/-! Co: o() and o(e, ..) of an own instance, inside a try too; C(e, ..) inside a try; defs whose last parameters have defaults. -/
namespace Co
open PySem PySem.Spec PyProof.Rows L2
/-- a def whose last parameters have the defaults dvs -/
structure FunP (K : PySem.W.Frag) (x qual : Str) (st : Stmt) (ps : List Str) (dvs : List V) (f : Addr) (fd : FuncData) : Prop where
  fD : FunD K x qual (defArgs st) (defBody st) (defScope st) dvs [] f fd
section
variable {P : Program} {w : World} {K : PySem.W.Frag} {mg : Str → Option Value} {base : Heap} {x qual : Str} {st : Stmt} {f : Addr} {fd : FuncData} {N ps qs : List Str} {k : Nat} {sp : Sp} {dvs : List V}
theorem FunP.ok (F : FunP K x qual st qs dvs f fd) (S : FnScope N ps (defScope st)) (len : ∀ vs H Q E, sp vs H Q E → vs.length = ps.length)
    (hbody : ∀ (cdv : Value) (A : Around) (outer : List Env) (s : Shared) (H : Hp) (vs : List V) (Q : VK) (E : XK), Room k (A.deeper (envOfC qual (defScope st) s.heap.objs.size f cdv)) → sp vs H Q E →
      ∃ t, PSs (cxOf CX0 P w K mg base N qual (defScope st) f cdv A outer s H E).nox (defBody st) t ∧ t { nx := fun _ H' => Q .non H', rt := Q } (start N vs) H) : FnOk P w K mg base CX0 (k + 1) f fd ps sp := by
  refine F.fD.ok S len fun cdv A outer s H vs Q E hr h => ?_
  obtain ⟨t, a, b⟩ := hbody cdv A outer s H vs Q E hr h
  exact ⟨t, a.nox, b⟩
theorem FunP.okX (F : FunP K x qual st qs dvs f fd) (S : FnScope N ps (defScope st)) (len : ∀ vs H Q E, sp vs H Q E → vs.length = ps.length)
    (hbody : ∀ (cdv : Value) (A : Around) (outer : List Env) (s : Shared) (H : Hp) (vs : List V) (Q : VK) (E : XK), Room k (A.deeper (envOfC qual (defScope st) s.heap.objs.size f cdv)) → sp vs H Q E →
      ∃ t, PSs (cxOf (L2.CX P w) P w K mg base N qual (defScope st) f cdv A outer s H E) (defBody st) t ∧ t { nx := fun _ H' => Q .non H', rt := Q } (start N vs) H) : FnOk P w K mg base (L2.CX P w) (k + 1) f fd ps sp := by
  exact F.fD.ok S len hbody
theorem FunP.kp (F : FunP K x qual st qs dvs f fd) : PySem.W.keepIn K (.ref f) = true := F.fD.kp
end
def callSLeaf (C : Addr) (sp : Sp) (E : L2.St → XK) (t : TA) (σ : L2.St) (Q : VK) (y : V) (H1 : Hp) : Prop := ∃ a, y = V.ref a ∧ t σ H1 fun vs H2 => (∃ dx fs, H2 a = some (.ins C dx fs)) ∧ sp (V.ref a :: vs) H2 Q (E σ)
def tCallOS (C : Addr) (sp : Sp) (E : L2.St → XK) (tf : TE) (t : TA) : TE := fun σ H Q => tf σ H (callSLeaf C sp E t σ Q)
def mkSLeaf (C : Addr) (sp : Sp) (E : XK) (Q : VK) (vs : List V) (H1 : Hp) : Prop := ∀ x dx, H1 x = Option.none → H1 dx = Option.none → dx ≠ x →
  sp (V.ref x :: vs) (upd (upd H1 dx (.own x)) x (.ins C dx [])) (fun v H2 => v = .non ∧ Q (.ref x) H2) E
def tMakeS (C : Addr) (sp : Sp) (E : L2.St → XK) (t : TA) : TE := fun σ H Q => t σ H (mkSLeaf C sp (E σ) Q)
section
variable {X : Cx} {CX : CXT} {k i : Nat} {f C g : Addr} {sp : Sp} {x : Str} {e fe : Expr} {es : List Expr} {tf : TE} {t : TA} {p pos : Pos}
/-- o() -/
theorem pe_callO0 {E : XK} (hf : PE X fe tf) (c : StX.CallO X.K C g) (F : FnR X.prog X.w X.K X.mg X.base CX k g sp) (hr : Room k X.A) (hx : Passes CX X E)
    (ht : eval (.Call fe [] [] pos) X.env = (do callWith pos (← eval fe X.env) [] (backTo pos (starEach [] X.env)) (backToKw pos (keywordEach [] X.env))) := by rfl) :
    PE X (.Call fe [] [] pos) (StX.tCallO X C sp E tf tNil) := by
  refine ⟨fun pins s σ H Q I h => ?_⟩
  refine Call_ (thn (hf.run pins s σ H _ I h) fun u s1 ⟨y, H1, I1, ry, a, ey, q⟩ => ?_) ht
  subst ey
  obtain rfl : u = Value.ref a := ry
  have q : StX.InsC X H1 a C ∧ sp [V.ref a] H1 Q E := q
  obtain ⟨ox, od, J, hd⟩ := StX.insC_at I1 q.1
  refine StX.callO_of (M := model X.prog X.w) rfl ?_
  exact evalArgs_empty ⟨⟨C, ox, od, J, hd⟩, StX.run_callO (us := []) c F hr hx I1 q.1 .nil q.2⟩
/-- o(e, ..) inside a try -/
theorem pe_callOS {E : L2.St → XK} (hf : PE X fe tf) (c : StX.CallO X.K C g) (F : FnR X.prog X.w X.K X.mg X.base CX k g sp) (hr : Room k X.A) (hx : ∀ σ, PassesAt CX X σ (E σ)) (ha : PA X (e :: es) t)
    (ht : eval (.Call fe (e :: es) [] pos) X.env = (do callWith pos (← eval fe X.env) [] (backTo pos (starEach (e :: es) X.env)) (backToKw pos (keywordEach [] X.env))) := by rfl)
    (he : starEach (e :: es) X.env = (false, eval e X.env) :: starEach es X.env := by rfl) (hpl : (backTo pos (starEach es X.env)).any (·.1) = false := by rfl) : PE X (.Call fe (e :: es) [] pos) (tCallOS C sp E tf t) := by
  refine ⟨fun pins s σ H Q I h => ?_⟩
  refine Call_ (thn (hf.run pins s σ H _ I h) fun u s1 ⟨y, H1, I1, ry, a, ey, q⟩ => ?_) ht
  subst ey
  obtain rfl : u = Value.ref a := ry
  refine StX.callO_with (thn (ha.run pos pins s1 σ H1 _ I1 q) fun us s2 ⟨vs, H2, I2, r, hi, q2⟩ => ?_) he hpl
  obtain ⟨ox, od, J, hd⟩ := StX.insC_at (X := X) I2 (.inr hi)
  refine ⟨⟨C, ox, od, J, hd⟩, ?_⟩
  refine wpAny_call (PySem.W.kco_code I2.kIn J hd c.at_ c.fn c.fi (codeAny_mono (F X.A X.stack s2 H2 (.ref a :: us) (.ref a :: vs) Q (E σ) hr I2.env0 (.cons rfl r) q2) fun r s' hq => ?_))
  cases r with
  | error e => exact hx σ _ H2 s2 e s' I2 hq
  | ok fl =>
    cases fl with
    | ret u => exact I2.after hq
    | next => exact False.elim hq
    | brk => exact False.elim hq
    | cont => exact False.elim hq
/-- C(e, ..) inside a try -/
theorem pe_makeS {E : L2.St → XK} (M : Mk X.K C f) (F : FnR X.prog X.w X.K X.mg X.base CX k f sp) (hr : Room (k + 1) X.A) (hg : Gl X x) (hm : X.mg x = some (.ref C)) (hx : ∀ σ, PassesAt CX X σ (E σ)) (ha : PA X (e :: es) t) (hdb : (x == ("__debug__" : Str)) = false := by decide)
    (he : starEach (e :: es) X.env = (false, eval e X.env) :: starEach es X.env := by rfl) (hpl : (backTo pos (starEach es X.env)).any (·.1) = false := by rfl) : PE X (.Call (.Name x p) (e :: es) [] pos) (tMakeS C sp E t) := by
  refine ⟨fun pins s σ H Q I h => ?_⟩
  refine wpAny_Call_Name_kw (ld_glob I hg hm ?_ hdb)
  refine PySem.W.callWith_K (h₀ := X.base) I.ok.mod.kin M.kp (thn (ha.run pos pins s σ H _ I h) fun us s1 ⟨vs, H1, I1, r, q⟩ => ⟨I1.kIn, ?_⟩) he hpl
  have hq := q (s1.heap.objs.size + 1) s1.heap.objs.size (I1.hok.fresh (Nat.le_succ _)) (I1.hok.fresh (Nat.le_refl _)) (Nat.ne_of_lt (Nat.lt_succ_self _))
  have I2 := Inv.made (C := C) I1
  have r2 : Vals (V.ref (s1.heap.objs.size + 1) :: vs) (Value.ref (s1.heap.objs.size + 1) :: us) := .cons rfl r
  refine wpAny_call (make_map (f := f) I1.kIn M.makes M.init (beq_iff_eq.mp M.fn) (codeAny_mono (F _ X.stack _ _ (Value.ref (s1.heap.objs.size + 1) :: us) _ _ (E σ) (hr.make C us []) (I2.env0.make C us []) r2 hq) fun r s' hq' => ?_))
  cases r with
  | error e => exact hx σ pins _ _ e s' I2 hq'
  | ok fl =>
    cases fl with
    | ret u =>
      obtain ⟨v, H', I3, rv, ev, q3⟩ := I2.after hq'
      subst ev
      exact ⟨rv, ⟨V.ref (s1.heap.objs.size + 1), H', I3, rfl, q3⟩⟩
    | next => exact False.elim hq'
    | brk => exact False.elim hq'
    | cont => exact False.elim hq'
end
section
variable {K : PySem.W.Frag} {X : Cx} {σ : L2.St} {H : Hp} {Q : VK} {E : L2.St → XK} {sp : Sp} {C a dx : Addr} {fs : List (Str × V)} {tf : TE} {t : TA}
theorem w_callOS (h : tf σ H (callSLeaf C sp E t σ Q)) : tCallOS C sp E tf t σ H Q := h
def callSArgs (C : Addr) (sp : Sp) (E : XK) (a : Addr) (Q : VK) (vs : List V) (H2 : Hp) : Prop := (∃ dx fs, H2 a = some (.ins C dx fs)) ∧ sp (V.ref a :: vs) H2 Q E
theorem c_callOS (h : t σ H (callSArgs C sp (E σ) a Q)) : callSLeaf C sp E t σ Q (.ref a) H := ⟨a, rfl, h⟩
theorem c_callSA {E : XK} {vs : List V} (h : H a = some (.ins C dx fs)) (q : sp (V.ref a :: vs) H Q E) : callSArgs C sp E a Q vs H := ⟨⟨dx, fs, h⟩, q⟩
theorem w_makeS (h : t σ H (mkSLeaf C sp (E σ) Q)) : tMakeS C sp E t σ H Q := h
end
/-! a tuple that stands in the frozen part (a default value) where a list or a tuple is wanted -/
def Fz (K : PySem.W.Frag) (a : Addr) (xs : List V) : Prop := ∀ H, SqT K H a xs
section
variable {K : PySem.W.Frag} {σ : L2.St} {H : Hp} {Q : VK} {a : Addr} {xs : List V}
theorem c_ixF {i : Int} {v : V} (h : Fz K a xs) (hv : atI xs i = some v) (q : Q v H) : Po.rIxA K (.ref a) (.int i) H Q := .inr ⟨a, xs, i, v, rfl, rfl, h H, hv, q⟩
theorem c_lenF (h : Fz K a xs) (q : Q (.int (xs.length : Nat)) H) : Eg.rLenQ K [V.ref a] H Q := ⟨a, xs, rfl, .inr (h H), q⟩
theorem for_seqF {g : TG} {tb : TS} {D : Ends} (h : Fz K a xs) (Pv : Nat → L2.St → Hp → Prop) (h0 : Pv 0 σ H) (_ : ∀ i σ H', Pv i σ H' → ∀ o, H a = some o → H' a = some o)
    (hs : ∀ i x σ H, xs[i]? = some x → Pv i σ H → g x σ H fun σ2 H2 => tb { D with nx := Pv (i + 1), ct := Pv (i + 1), bk := D.nx } σ2 H2) (hd : ∀ σ H, Pv xs.length σ H → D.nx σ H) :
    Po.seqLeaf K (fun J H1 => ∃ W : Nat → Nat → L2.St → Hp → Prop, (∃ m, W 0 m σ H1) ∧ ∀ i m σ H, W i m σ H →
      (J.stop i H ∧ D.nx σ H) ∨ (J.go i H ∧ ∃ N : L2.St → Hp → Prop, (∀ σ' H', N σ' H' → ∃ m', m' < m ∧ W (i + 1) m' σ' H') ∧ ∀ x H', J.yld i H x H' → g x σ H' fun σ2 H2 => tb { D with nx := N, ct := N, bk := D.nx } σ2 H2)) (.ref a) H :=
  .inr ⟨a, rfl, ⟨xs, h H⟩, for_tup Pv h0 (fun _ _ H' _ _ => h H') hs hd⟩
end
end Co

local macro_rules | `(tactic| walk_at "blk") => `(tactic| first | exact rfl | dsimp only [L2.cxOf, L2.Cx.nox, L2.Cx.wish, L2.Cx.blk])
local macro_rules | `(tactic| walk_at "hp") => `(tactic| first
  | assumption
  | exact L2.upd_same
  | (refine Eg.upd_old ?_ (by assumption); walk_at "hp")
  | (refine Eg.upd_mut (by first | assumption | exact Ne.symm (by assumption)) ?_; walk_at "hp")
  | (refine Eg.frame_at (by assumption) (by first | assumption | exact Ne.symm (by assumption)) ?_; walk_at "hp")
  | ((refine (show L2.Same _ _ by assumption) _ _ ?_); walk_at "hp"))
local macro_rules | `(tactic| walk_at "sq") => `(tactic| first
  | assumption
  | exact L2.SqL.of (by walk_at "hp")
  | exact L2.SqT.of (by walk_at "hp"))
local macro_rules | `(tactic| walk_at "g0") => `(tactic| first
  | with_reducible refine Eg.w_seq ?_
  | (with_reducible show L2.Ends.nx _ _ _; with_reducible refine Eg.w_nx ?_)
  | with_reducible refine Eg.w_asg ?_
  | with_reducible refine Eg.w_gN ?_
  | with_reducible refine Eg.w_op ?_
  | with_reducible refine Eg.w_c ?_
  | ((with_reducible refine' Eg.w_var ?hv ?_); (case hv => exact rfl))
  | with_reducible refine Eg.w_cons ?_
  | with_reducible refine Eg.w_nil ?_
  | with_reducible refine Eg.w_rI0 ?_
  | ((with_reducible refine' Eg.w_rI ?hc ?_); (case hc => walk_at "cond"))
  | with_reducible refine Eg.w_rU ?_
  | with_reducible refine Eg.w_un ?_
  | ((with_reducible refine' Eg.w_ixL ?hs ?hv ?_); (case hs => walk_at "sq"); (case hv => walk_at "at"))
  | ((with_reducible refine' Eg.w_ixT ?hs ?hv ?_); (case hs => walk_at "sq"); (case hv => walk_at "at"))
  | with_reducible refine Eg.w_cb ?_
  | with_reducible refine Eg.w_call ?_
  | with_reducible refine Eg.w_ifS ?_
  | with_reducible refine Eg.w_test ?_
  | with_reducible refine Eg.w_B ?_
  | with_reducible refine Eg.w_bl ?_
  | with_reducible refine Eg.w_bl' ?_
  | with_reducible refine Eg.w_ret ?_
  | (with_reducible show L2.Ends.rt _ _ _; with_reducible refine Eg.w_rt ?_)
  | with_reducible refine Eg.w_next ?_
  | with_reducible refine Eg.w_drop ?_
  | with_reducible refine Eg.w_gSub ?_
  | ((with_reducible refine' Eg.w_setL ?hs ?hv ?_); (case hs => walk_at "hp"); (case hv => exact rfl))
  | with_reducible refine Eg.c_int ?_
  | with_reducible refine Eg.c_abs ?_
  | with_reducible refine Eg.c_min2 ?_
  | with_reducible refine Eg.c_max2 ?_
  | with_reducible refine Eg.c_isN ?_
  | with_reducible refine Eg.c_notN ?_
  | ((with_reducible refine' Eg.c_len ?hs ?_); (case hs => walk_at "sq"))
  | with_reducible refine Eg.w_dget ?_
  | with_reducible refine Eg.w_din ?_
  | with_reducible refine Eg.w_dnin ?_
  | with_reducible refine Eg.w_dput ?_
  | with_reducible refine Eg.w_dnewT ?_
  | with_reducible refine Eg.w_dnewK ?_
  | with_reducible refine Eg.w_iK ?_
  | ((with_reducible refine' Eg.w_eq ?hs ?_); (case hs => rfl))
  | ((with_reducible refine' Eg.w_ne ?hs ?_); (case hs => rfl))
  | with_reducible refine Es.w_ifSS ?_
  | with_reducible refine Eg.w_if ?_
  | with_reducible refine Eg.w_not ?_
  | with_reducible refine Eg.w_andV ?_
  | with_reducible refine Eg.w_orV ?_
  | with_reducible refine Eg.w_notV ?_
  | with_reducible refine Eg.w_chain ?_
  | with_reducible refine Eg.w_tup ?_
  | with_reducible refine Eg.w_lst ?_
  | ((with_reducible refine' Eg.w_sz ?hs ?_); (case hs => first | decide | (simp only [List.length_cons, List.length_nil]; omega)))
  | with_reducible refine Eg.w_bm ?_
  | with_reducible refine Eg.w_bm0 ?_
  | ((with_reducible refine' Eg.w_tyl ?hs ?_); (case hs => walk_at "sq"))
  | ((with_reducible refine' Eg.w_append ?hs ?hz ?_); (case hs => walk_at "hp"); (case hz => walk_at "size"))
  | with_reducible refine Eg.w_fld ?_
  | ((with_reducible refine' Eg.c_fld ?hs ?hc ?hn ?hl ?_); (case hs => walk_at "hp"); (case hc => assumption); (case hn => assumption); (case hl => walk_at "lk"))
  | with_reducible refine Eg.w_sl ?_
  | with_reducible refine Eg.w_sfld ?_
  | ((with_reducible refine' Eg.c_sfld ?hs ?hc ?hn ?hl ?_); (case hs => walk_at "hp"); (case hc => assumption); (case hn => assumption); (case hl => walk_at "few"))
  | with_reducible refine Eg.w_meth ?_
  | ((with_reducible refine' Eg.c_meth ?hs ?hl ?_); (case hs => walk_at "hp"); (case hl => walk_at "lk"))
  | with_reducible refine Eg.w_make ?_
  | with_reducible refine Eg.w_nopart ?_
  | with_reducible refine Eg.w_part ?_
  | with_reducible refine Eg.c_part ?_
  | ((with_reducible refine' Eg.w_gTup ?hs ?hn ?_); (case hs => walk_at "sq"); (case hn => exact rfl))
  | with_reducible refine Eg.w_gCons ?_
  | with_reducible refine Eg.w_gNil ?_
  | with_reducible refine Eg.w_for ?_
  | with_reducible refine Eg.w_iL ?_
  | with_reducible refine Eg.w_iR1 ?_
  | with_reducible refine Eg.w_iR2 ?_
  | ((with_reducible refine' Eg.c_iR2 ?hs ?_); (case hs => first | decide | (refine ⟨?_, ?_, ?_, ?_⟩ <;> omega)))
  | with_reducible refine Eg.w_iT ?_
  | ((with_reducible refine' Eg.c_iT ?hs ?_); (case hs => walk_at "sq"))
  | with_reducible refine Eg.w_iZ ?_
  | ((with_reducible refine' Eg.c_iZ ?hs ?hz ?_); (case hs => walk_at "sq"); (case hz => walk_at "sq"))
  | with_reducible refine Eg.w_lc ?_
  | with_reducible refine Eg.w_yes ?_
  | with_reducible refine Eg.w_par ?_
  | with_reducible refine Eg.c_par ?_
  | ((with_reducible show DTx.tDt _ _ _ _ _ _ _ _ _); unfold DTx.tDt)
  | ((with_reducible refine' Eg.w_wipe ?hs ?_); (case hs => exact rfl))
  | with_reducible refine L2.iteT ?_
  | with_reducible refine L2.iteF ?_
  | ((with_reducible show ∃ acc, _ = some (L2.HO.lst acc) ∧ acc.length < PySem.sizeLine ∧ _); (refine' ⟨_, ?hs, Nat.lt_of_lt_of_le (m := 100000) ?hz (by decide), ?_⟩); (case hs => walk_at "hp"); (case hz => walk_at "size"))
  | ((with_reducible refine' Eg.c_iR1 ?hs ?hz ?_); (case hs => first | decide | omega); (case hz => first | decide | omega))
  | ((with_reducible refine' Eg.c_iL ?hs ?_); (case hs => walk_at "sq"))
  | with_reducible refine Eg.w_disp1 ?_
  | ((with_reducible refine' Eg.c_dispI ?hs ?_); (case hs => walk_at "hp"))
  | with_reducible refine Eg.w_retN ?_
  | with_reducible refine Eg.w_brk ?_
  | with_reducible refine Eg.w_cont ?_
  | with_reducible refine Es.js_cons ?_
  | with_reducible refine Es.js_nil ?_
  | ((with_reducible refine' Es.js_leaf ?hz ?_); (case hz => walk_at "len"))
  | with_reducible refine Es.w_fmt ?_
  | ((with_reducible refine' Es.fm_str ?hz ?_); (case hz => walk_at "len"))
  | ((with_reducible refine' Es.fm_int ?hz ?_); (case hz => exact Fs.log_small (by first | assumption | omega)))
  | with_reducible refine Es.w_fmtD ?_
  | with_reducible refine Es.w_join ?_
  | ((with_reducible refine' Es.c_addS ?hz ?_); (case hz => walk_at "len"))
  | ((with_reducible refine' Es.c_strI ?hz ?_); (case hz => exact Fs.log_small (by first | assumption | omega)))
  | (with_reducible show L2.Ends.bk _ _ _; with_reducible refine Eg.w_bk ?_)
  | (with_reducible show L2.Ends.ct _ _ _; with_reducible refine Eg.w_ct ?_))
local macro_rules | `(tactic| walk_at "g2") => `(tactic| first
  | with_reducible refine Eg.w_seq ?_
  | (with_reducible show L2.Ends.nx _ _ _; with_reducible refine Eg.w_nx ?_)
  | with_reducible refine Eg.w_asg ?_
  | with_reducible refine Eg.w_gN ?_
  | with_reducible refine Eg.w_op ?_
  | with_reducible refine Eg.w_c ?_
  | ((with_reducible refine' Eg.w_var ?hv ?_); (case hv => exact rfl))
  | with_reducible refine Eg.w_cons ?_
  | with_reducible refine Eg.w_nil ?_
  | with_reducible refine Eg.w_rI0 ?_
  | ((with_reducible refine' Eg.w_rI ?hc ?_); (case hc => walk_at "cond"))
  | with_reducible refine Eg.w_rU ?_
  | with_reducible refine Eg.w_un ?_
  | ((with_reducible refine' Eg.w_ixL ?hs ?hv ?_); (case hs => walk_at "sq"); (case hv => walk_at "at"))
  | ((with_reducible refine' Eg.w_ixT ?hs ?hv ?_); (case hs => walk_at "sq"); (case hv => walk_at "at"))
  | with_reducible refine Eg.w_cb ?_
  | with_reducible refine Eg.w_call ?_
  | with_reducible refine Eg.w_ifS ?_
  | with_reducible refine Eg.w_test ?_
  | with_reducible refine Eg.w_B ?_
  | with_reducible refine Eg.w_bl ?_
  | with_reducible refine Eg.w_bl' ?_
  | with_reducible refine Eg.w_ret ?_
  | (with_reducible show L2.Ends.rt _ _ _; with_reducible refine Eg.w_rt ?_)
  | with_reducible refine Eg.w_next ?_
  | with_reducible refine Eg.w_drop ?_
  | with_reducible refine Eg.w_gSub ?_
  | ((with_reducible refine' Eg.w_setL ?hs ?hv ?_); (case hs => walk_at "hp"); (case hv => exact rfl))
  | with_reducible refine Eg.c_int ?_
  | with_reducible refine Eg.c_abs ?_
  | with_reducible refine Eg.c_min2 ?_
  | with_reducible refine Eg.c_max2 ?_
  | with_reducible refine Eg.c_isN ?_
  | with_reducible refine Eg.c_notN ?_
  | ((with_reducible refine' Eg.c_len ?hs ?_); (case hs => walk_at "sq"))
  | with_reducible refine Eg.w_dget ?_
  | with_reducible refine Eg.w_din ?_
  | with_reducible refine Eg.w_dnin ?_
  | with_reducible refine Eg.w_dput ?_
  | with_reducible refine Eg.w_dnewT ?_
  | with_reducible refine Eg.w_dnewK ?_
  | with_reducible refine Eg.w_iK ?_
  | ((with_reducible refine' Eg.w_eq ?hs ?_); (case hs => rfl))
  | ((with_reducible refine' Eg.w_ne ?hs ?_); (case hs => rfl))
  | with_reducible refine Es.w_ifSS ?_
  | with_reducible refine Eg.w_if ?_
  | with_reducible refine Eg.w_not ?_
  | with_reducible refine Eg.w_andV ?_
  | with_reducible refine Eg.w_orV ?_
  | with_reducible refine Eg.w_notV ?_
  | with_reducible refine Eg.w_chain ?_
  | with_reducible refine Eg.w_tup ?_
  | with_reducible refine Eg.w_lst ?_
  | ((with_reducible refine' Eg.w_sz ?hs ?_); (case hs => first | decide | (simp only [List.length_cons, List.length_nil]; omega)))
  | with_reducible refine Eg.w_bm ?_
  | with_reducible refine Eg.w_bm0 ?_
  | ((with_reducible refine' Eg.w_tyl ?hs ?_); (case hs => walk_at "sq"))
  | ((with_reducible refine' Eg.w_append ?hs ?hz ?_); (case hs => walk_at "hp"); (case hz => walk_at "size"))
  | with_reducible refine Eg.w_fld ?_
  | ((with_reducible refine' Eg.c_fld ?hs ?hc ?hn ?hl ?_); (case hs => walk_at "hp"); (case hc => assumption); (case hn => assumption); (case hl => walk_at "lk"))
  | with_reducible refine Eg.w_sl ?_
  | with_reducible refine Eg.w_sfld ?_
  | ((with_reducible refine' Eg.c_sfld ?hs ?hc ?hn ?hl ?_); (case hs => walk_at "hp"); (case hc => assumption); (case hn => assumption); (case hl => walk_at "few"))
  | with_reducible refine Eg.w_meth ?_
  | ((with_reducible refine' Eg.c_meth ?hs ?hl ?_); (case hs => walk_at "hp"); (case hl => walk_at "lk"))
  | with_reducible refine Eg.w_make ?_
  | with_reducible refine Eg.w_nopart ?_
  | with_reducible refine Eg.w_part ?_
  | with_reducible refine Eg.c_part ?_
  | ((with_reducible refine' Eg.w_gTup ?hs ?hn ?_); (case hs => walk_at "sq"); (case hn => exact rfl))
  | with_reducible refine Eg.w_gCons ?_
  | with_reducible refine Eg.w_gNil ?_
  | with_reducible refine Eg.w_for ?_
  | with_reducible refine Eg.w_iL ?_
  | with_reducible refine Eg.w_iR1 ?_
  | with_reducible refine Eg.w_iR2 ?_
  | ((with_reducible refine' Eg.c_iR2 ?hs ?_); (case hs => first | decide | (refine ⟨?_, ?_, ?_, ?_⟩ <;> omega)))
  | with_reducible refine Eg.w_iT ?_
  | ((with_reducible refine' Eg.c_iT ?hs ?_); (case hs => walk_at "sq"))
  | with_reducible refine Eg.w_iZ ?_
  | ((with_reducible refine' Eg.c_iZ ?hs ?hz ?_); (case hs => walk_at "sq"); (case hz => walk_at "sq"))
  | with_reducible refine Eg.w_yes ?_
  | with_reducible refine Eg.w_par ?_
  | with_reducible refine Eg.c_par ?_
  | ((with_reducible show DTx.tDt _ _ _ _ _ _ _ _ _); unfold DTx.tDt)
  | ((with_reducible refine' Eg.w_wipe ?hs ?_); (case hs => exact rfl))
  | with_reducible refine L2.iteT ?_
  | with_reducible refine L2.iteF ?_
  | ((with_reducible show ∃ acc, _ = some (L2.HO.lst acc) ∧ acc.length < PySem.sizeLine ∧ _); (refine' ⟨_, ?hs, Nat.lt_of_lt_of_le (m := 100000) ?hz (by decide), ?_⟩); (case hs => walk_at "hp"); (case hz => walk_at "size"))
  | ((with_reducible refine' Eg.c_iR1 ?hs ?hz ?_); (case hs => first | decide | omega); (case hz => first | decide | omega))
  | ((with_reducible refine' Eg.c_iL ?hs ?_); (case hs => walk_at "sq"))
  | with_reducible refine Eg.w_disp1 ?_
  | ((with_reducible refine' Eg.c_dispI ?hs ?_); (case hs => walk_at "hp"))
  | with_reducible refine Eg.w_retN ?_
  | with_reducible refine Eg.w_brk ?_
  | with_reducible refine Eg.w_cont ?_
  | with_reducible refine Es.js_cons ?_
  | with_reducible refine Es.js_nil ?_
  | ((with_reducible refine' Es.js_leaf ?hz ?_); (case hz => walk_at "len"))
  | with_reducible refine Es.w_fmt ?_
  | ((with_reducible refine' Es.fm_str ?hz ?_); (case hz => walk_at "len"))
  | ((with_reducible refine' Es.fm_int ?hz ?_); (case hz => exact Fs.log_small (by first | assumption | omega)))
  | with_reducible refine Es.w_fmtD ?_
  | with_reducible refine Es.w_join ?_
  | ((with_reducible refine' Es.c_addS ?hz ?_); (case hz => walk_at "len"))
  | ((with_reducible refine' Es.c_strI ?hz ?_); (case hz => exact Fs.log_small (by first | assumption | omega)))
  | (with_reducible show L2.Ends.bk _ _ _; with_reducible refine Eg.w_bk ?_)
  | (with_reducible show L2.Ends.ct _ _ _; with_reducible refine Eg.w_ct ?_))
local macro_rules | `(tactic| walk_at "at") => `(tactic| first | exact rfl | assumption)
local macro_rules | `(tactic| walk_at "size") => `(tactic| first | decide | omega | (simp only [List.length_append, List.length_map, List.length_cons, List.length_nil]; omega))
local macro_rules | `(tactic| walk_at "cond") => `(tactic| first | assumption | decide | exact ⟨by decide, by decide⟩ | exact .inl ⟨by omega, by omega⟩ | exact .inr ⟨by omega, by omega⟩ | exact ⟨by omega, by omega⟩ | exact ⟨by omega, by omega, by omega⟩ | (show (0 : Int) < _; omega))
local macro_rules | `(tactic| walk_at "g1") => `(tactic| first | walk_at "g0" | with_reducible refine Eg.w_and ?_ | with_reducible refine Eg.w_or ?_)
local macro_rules | `(tactic| walk_at "go") => `(tactic| repeat walk_at "g1")
local macro_rules | `(tactic| walk_at "gp") => `(tactic| repeat walk_at "g0")
local macro_rules | `(tactic| walk_at "lk") => `(tactic| first | assumption | exact rfl | decide +kernel)
local macro_rules | `(tactic| walk_at "few") => `(tactic| first | decide | exact (show 1 < 1000 by decide) | exact (show 2 < 1000 by decide) | exact (show 3 < 1000 by decide) | exact (show 4 < 1000 by decide) | exact (show 5 < 1000 by decide))
local macro_rules | `(tactic| walk_at "g3") => `(tactic| first | walk_at "g2" | with_reducible refine Eg.w_and ?_ | with_reducible refine Eg.w_or ?_)
local macro_rules | `(tactic| walk_at "gw") => `(tactic| repeat walk_at "g3")
local macro_rules | `(tactic| walk_at "len") => `(tactic| first | assumption | (simp only [PySem.strLen_append, PySem.sizeLine_eq, Fs.sp1, Fs.sp3, Fs.emp0, Fs.sg1, Fs.tI]; omega))

local macro_rules | `(tactic| walk_at "tx") => `(tactic| first
  | ((with_reducible refine' Tw.c_lenS ?hz ?_); (case hz => first | assumption | omega))
  | with_reducible refine Tw.c_ord ?_
  | with_reducible refine Tw.c_leS ?_
  | with_reducible refine Tw.c_leA ?_
  | with_reducible refine Tw.c_leZ ?_
  | with_reducible refine Tw.c_inDig ?_
  | with_reducible refine Tw.c_notInBr ?_
  | with_reducible refine Tw.c_inS ?_
  | with_reducible refine Tw.c_notInS ?_
  | ((with_reducible refine' Tw.c_rs ?hz ?_); (case hz => first | assumption | omega))
  | with_reducible refine Tw.w_iStr ?_
  | with_reducible refine Tw.w_tyS ?_
  | with_reducible refine Tw.c_iStr ?_
  | ((with_reducible refine' Tw.c_addSS ?hz ?_); (case hz => first | assumption | omega | (simp only [List.length_append, List.length_cons, List.length_nil]; omega)))
  | ((with_reducible refine' Tw.c_neE ?hs ?hn ?_); (case hs => walk_at "hp"); (case hn => walk_at "hp"))
  | ((with_reducible refine' Tw.c_eqE ?hs ?hn ?_); (case hs => walk_at "hp"); (case hn => walk_at "hp"))
  | with_reducible refine Tw.br_nt ?_
  | with_reducible refine Tw.br_nf ?_
  | ((with_reducible refine' Tw.isi_str ?hz ?_); (case hz => exact rfl)))
local macro_rules | `(tactic| walk_at "at") => `(tactic| first | exact Tx.atI_hd | exact Tx.atI_hd1 | exact Tx.atI_last (by assumption))
local macro_rules | `(tactic| walk_at "g0") => `(tactic| walk_at "tx")
local macro_rules | `(tactic| walk_at "g2") => `(tactic| walk_at "tx")

section
namespace LW
open PySem L2 SX Tx
def top (i : Nat) : Stmt := PySem.Challenge.pw_ownholes_k11_templates.main.body.getD i (.Pass ⟨0, 0, 0, 0⟩)
abbrev s_is_word : Stmt := top 14
abbrev N_is_word : List Str := ["thing", "sign"]
theorem sc_is_word : FnScope N_is_word ["thing"] (defScope s_is_word) := ⟨rfl, rfl, rfl, by decide +kernel, rfl, by decide +kernel, by decide +kernel⟩
abbrev s_is_count : Stmt := top 15
abbrev N_is_count : List Str := ["text", "sign"]
theorem sc_is_count : FnScope N_is_count ["text"] (defScope s_is_count) := ⟨rfl, rfl, rfl, by decide +kernel, rfl, by decide +kernel, by decide +kernel⟩
abbrev s_is_label : Stmt := top 16
abbrev N_is_label : List Str := ["thing", "word"]
theorem sc_is_label : FnScope N_is_label ["thing"] (defScope s_is_label) := ⟨rfl, rfl, rfl, by decide +kernel, rfl, by decide +kernel, by decide +kernel⟩
abbrev s_is_value : Stmt := top 17
abbrev N_is_value : List Str := ["thing"]
theorem sc_is_value : FnScope N_is_value ["thing"] (defScope s_is_value) := ⟨rfl, rfl, rfl, by decide +kernel, rfl, by decide +kernel, by decide +kernel⟩
abbrev s_is_literal : Stmt := top 19
abbrev N_is_literal : List Str := ["sign"]
theorem sc_is_literal : FnScope N_is_literal ["sign"] (defScope s_is_literal) := ⟨rfl, rfl, rfl, by decide +kernel, rfl, by decide +kernel, by decide +kernel⟩
abbrev s_is_key : Stmt := top 20
abbrev N_is_key : List Str := ["key", "kind"]
theorem sc_is_key : FnScope N_is_key ["key", "kind"] (defScope s_is_key) := ⟨rfl, rfl, rfl, by decide +kernel, rfl, by decide +kernel, by decide +kernel⟩
abbrev s_check_value : Stmt := top 18
abbrev N_check_value : List Str := ["thing"]
theorem sc_check_value : FnScope N_check_value ["thing"] (defScope s_check_value) := ⟨rfl, rfl, rfl, by decide +kernel, rfl, by decide +kernel, by decide +kernel⟩
abbrev s_read_parts : Stmt := top 21
abbrev N_read_parts : List Str := ["text", "kind", "parts", "at", "begin", "end", "key"]
theorem sc_read_parts : FnScope N_read_parts ["text", "kind"] (defScope s_read_parts) := ⟨rfl, rfl, rfl, by decide +kernel, rfl, by decide +kernel, by decide +kernel⟩
abbrev s_merged : Stmt := top 22
abbrev N_merged : List Str := ["parts", "found", "part"]
theorem sc_merged : FnScope N_merged ["parts"] (defScope s_merged) := ⟨rfl, rfl, rfl, by decide +kernel, rfl, by decide +kernel, by decide +kernel⟩
abbrev s_Made_init : Stmt := inClass (top 24) 0
abbrev N_Made_init : List Str := ["self", "cells", "level"]
theorem sc_Made_init : FnScope N_Made_init ["self", "cells", "level"] (defScope s_Made_init) := ⟨rfl, rfl, rfl, by decide +kernel, rfl, by decide +kernel, by decide +kernel⟩
abbrev s_valued : Stmt := top 26
abbrev N_valued : List Str := ["text", "values", "named", "parts", "value", "name", "part", "labels", "places", "label", "found", "next_at"]
theorem sc_valued : FnScope N_valued ["text", "values", "named"] (defScope s_valued) := ⟨rfl, rfl, rfl, by decide +kernel, rfl, by decide +kernel, by decide +kernel⟩
abbrev s_template_of : Stmt := top 27
abbrev N_template_of : List Str := ["cells", "part"]
theorem sc_template_of : FnScope N_template_of ["cells"] (defScope s_template_of) := ⟨rfl, rfl, rfl, by decide +kernel, rfl, by decide +kernel, by decide +kernel⟩
abbrev s_Piece_init : Stmt := inClass (top 25) 1
abbrev N_Piece_init : List Str := ["self", "text", "values", "named"]
theorem sc_Piece_init : FnScope N_Piece_init ["self", "text", "values", "named"] (defScope s_Piece_init) := ⟨rfl, rfl, rfl, by decide +kernel, rfl, by decide +kernel, by decide +kernel⟩
abbrev s_Piece_of : Stmt := inClass (top 25) 2
abbrev N_Piece_of : List Str := ["cls", "text", "values", "table"]
theorem sc_Piece_of : FnScope N_Piece_of ["cls", "text", "values", "table"] (defScope s_Piece_of) := ⟨rfl, rfl, rfl, by decide +kernel, rfl, by decide +kernel, by decide +kernel⟩
abbrev s_Piece_parts : Stmt := inClass (top 25) 5
abbrev N_Piece_parts : List Str := ["self"]
theorem sc_Piece_parts : FnScope N_Piece_parts ["self"] (defScope s_Piece_parts) := ⟨rfl, rfl, rfl, by decide +kernel, rfl, by decide +kernel, by decide +kernel⟩
abbrev s_Piece_holes : Stmt := inClass (top 25) 6
abbrev N_Piece_holes : List Str := ["self", "part"]
theorem sc_Piece_holes : GScope N_Piece_holes ["self"] (defScope s_Piece_holes) := ⟨rfl, rfl, rfl, by decide +kernel, rfl, by decide +kernel, by decide +kernel⟩
abbrev s_Piece_len : Stmt := inClass (top 25) 7
abbrev N_Piece_len : List Str := ["self", "part"]
theorem sc_Piece_len : FnScope N_Piece_len ["self"] (defScope s_Piece_len) := ⟨rfl, rfl, rfl, by decide +kernel, rfl, by decide +kernel, by decide +kernel⟩
abbrev s_Piece_bool : Stmt := inClass (top 25) 8
abbrev N_Piece_bool : List Str := ["self"]
theorem sc_Piece_bool : FnScope N_Piece_bool ["self"] (defScope s_Piece_bool) := ⟨rfl, rfl, rfl, by decide +kernel, rfl, by decide +kernel, by decide +kernel⟩
abbrev s_Piece_eq : Stmt := inClass (top 25) 9
abbrev N_Piece_eq : List Str := ["self", "other"]
theorem sc_Piece_eq : FnScope N_Piece_eq ["self", "other"] (defScope s_Piece_eq) := ⟨rfl, rfl, rfl, by decide +kernel, rfl, by decide +kernel, by decide +kernel⟩
abbrev s_Template_init : Stmt := inClass (top 33) 0
abbrev N_Template_init : List Str := ["self", "text", "parts", "found", "part"]
theorem sc_Template_init : FnScope N_Template_init ["self", "text"] (defScope s_Template_init) := ⟨rfl, rfl, rfl, by decide +kernel, rfl, by decide +kernel, by decide +kernel⟩
abbrev s_Template_call : Stmt := inClass (top 33) 1
abbrev N_Template_call : List Str := ["self", "values", "table"]
theorem sc_Template_call : FnScope N_Template_call ["self", "values", "table"] (defScope s_Template_call) := ⟨rfl, rfl, rfl, by decide +kernel, rfl, by decide +kernel, by decide +kernel⟩
abbrev s_BadText_init : Stmt := inClass (top 3) 0
abbrev N_BadText_init : List Str := ["self", "at"]
theorem sc_BadText_init : FnScope N_BadText_init ["self", "at"] (defScope s_BadText_init) := ⟨rfl, rfl, rfl, by decide +kernel, rfl, by decide +kernel, by decide +kernel⟩
abbrev s_BadValue_init : Stmt := inClass (top 4) 0
abbrev N_BadValue_init : List Str := ["self", "value"]
theorem sc_BadValue_init : FnScope N_BadValue_init ["self", "value"] (defScope s_BadValue_init) := ⟨rfl, rfl, rfl, by decide +kernel, rfl, by decide +kernel, by decide +kernel⟩
abbrev s_Mismatch_init : Stmt := inClass (top 5) 0
abbrev N_Mismatch_init : List Str := ["self", "wanted", "got"]
theorem sc_Mismatch_init : FnScope N_Mismatch_init ["self", "wanted", "got"] (defScope s_Mismatch_init) := ⟨rfl, rfl, rfl, by decide +kernel, rfl, by decide +kernel, by decide +kernel⟩
abbrev s_NoLabel_init : Stmt := inClass (top 6) 0
abbrev N_NoLabel_init : List Str := ["self", "label"]
theorem sc_NoLabel_init : FnScope N_NoLabel_init ["self", "label"] (defScope s_NoLabel_init) := ⟨rfl, rfl, rfl, by decide +kernel, rfl, by decide +kernel, by decide +kernel⟩
abbrev s_Unused_init : Stmt := inClass (top 7) 0
abbrev N_Unused_init : List Str := ["self", "label"]
theorem sc_Unused_init : FnScope N_Unused_init ["self", "label"] (defScope s_Unused_init) := ⟨rfl, rfl, rfl, by decide +kernel, rfl, by decide +kernel, by decide +kernel⟩
abbrev s_l_bag : Stmt := top 35
abbrev N_l_bag : List Str := ["_law_script", "_law_at", "_law_cell", "_law_mixed", "_law_k", "_law_each"]
theorem sc_l_bag : FnScope N_l_bag ["_law_script", "_law_at"] (defScope s_l_bag) := ⟨rfl, rfl, rfl, by decide +kernel, rfl, by decide +kernel, by decide +kernel⟩
abbrev s_l_take : Stmt := top 36
abbrev N_l_take : List Str := ["_law_bag_here", "_law_many", "_law_digit"]
theorem sc_l_take : FnScope N_l_take ["_law_bag_here", "_law_many"] (defScope s_l_take) := ⟨rfl, rfl, rfl, by decide +kernel, rfl, by decide +kernel, by decide +kernel⟩
abbrev s_l_of : Stmt := top 37
abbrev N_l_of : List Str := ["_law_bag_here", "_law_some"]
theorem sc_l_of : FnScope N_l_of ["_law_bag_here", "_law_some"] (defScope s_l_of) := ⟨rfl, rfl, rfl, by decide +kernel, rfl, by decide +kernel, by decide +kernel⟩
abbrev s_l_wide : Stmt := top 38
abbrev N_l_wide : List Str := ["_law_bag_here", "_law_many", "_law_found", "_law_k"]
theorem sc_l_wide : FnScope N_l_wide ["_law_bag_here", "_law_many"] (defScope s_l_wide) := ⟨rfl, rfl, rfl, by decide +kernel, rfl, by decide +kernel, by decide +kernel⟩
abbrev s_l_value : Stmt := top 39
abbrev N_l_value : List Str := ["_law_bag_here", "_law_way", "_law_found", "_law_k"]
theorem sc_l_value : FnScope N_l_value ["_law_bag_here"] (defScope s_l_value) := ⟨rfl, rfl, rfl, by decide +kernel, rfl, by decide +kernel, by decide +kernel⟩
abbrev s_l_labels : Stmt := top 40
abbrev N_l_labels : List Str := ["_law_bag_here", "_law_many", "_law_left", "_law_found", "_law_stem", "_law_is_ahead", "_law_k", "_law_sign", "_law_word", "_law_number"]
theorem sc_l_labels : FnScope N_l_labels ["_law_bag_here", "_law_many"] (defScope s_l_labels) := ⟨rfl, rfl, rfl, by decide +kernel, rfl, by decide +kernel, by decide +kernel⟩
abbrev s_l_literal : Stmt := top 41
abbrev N_l_literal : List Str := ["_law_bag_here", "_law_limit", "_law_signs", "_law_found", "_law_k"]
theorem sc_l_literal : FnScope N_l_literal ["_law_bag_here", "_law_limit"] (defScope s_l_literal) := ⟨rfl, rfl, rfl, by decide +kernel, rfl, by decide +kernel, by decide +kernel⟩
abbrev s_l_merged : Stmt := top 42
abbrev N_l_merged : List Str := ["_law_parts_here", "_law_found", "_law_part", "_law_last"]
theorem sc_l_merged : FnScope N_l_merged ["_law_parts_here"] (defScope s_l_merged) := ⟨rfl, rfl, rfl, by decide +kernel, rfl, by decide +kernel, by decide +kernel⟩
abbrev s_l_text : Stmt := top 43
abbrev N_l_text : List Str := ["_law_parts_here", "_law_part"]
theorem sc_l_text : FnScope N_l_text ["_law_parts_here"] (defScope s_l_text) := ⟨rfl, rfl, rfl, by decide +kernel, rfl, by decide +kernel, by decide +kernel⟩
abbrev s_l_hole : Stmt := top 44
abbrev N_l_hole : List Str := ["_law_text_here", "_law_at", "_law_kind", "_law_rest", "_law_key", "_law_word", "_law_signs", "_law_digits", "_law_sign"]
theorem sc_l_hole : FnScope N_l_hole ["_law_text_here", "_law_at", "_law_kind"] (defScope s_l_hole) := ⟨rfl, rfl, rfl, by decide +kernel, rfl, by decide +kernel, by decide +kernel⟩
abbrev s_l_read : Stmt := top 45
abbrev N_l_read : List Str := ["_law_text_here", "_law_kind", "_law_keys", "_law_at", "_law_key"]
theorem sc_l_read : FnScope N_l_read ["_law_text_here", "_law_kind"] (defScope s_l_read) := ⟨rfl, rfl, rfl, by decide +kernel, rfl, by decide +kernel, by decide +kernel⟩
abbrev s_l_spoilt : Stmt := top 46
abbrev N_l_spoilt : List Str := ["_law_bag_here", "_law_text_here", "_law_some", "_law_place"]
theorem sc_l_spoilt : FnScope N_l_spoilt ["_law_bag_here", "_law_text_here"] (defScope s_l_spoilt) := ⟨rfl, rfl, rfl, by decide +kernel, rfl, by decide +kernel, by decide +kernel⟩
abbrev s_l_odd : Stmt := top 47
abbrev N_l_odd : List Str := ["_law_bag_here"]
theorem sc_l_odd : FnScope N_l_odd ["_law_bag_here"] (defScope s_l_odd) := ⟨rfl, rfl, rfl, by decide +kernel, rfl, by decide +kernel, by decide +kernel⟩
abbrev s_l_parts : Stmt := top 48
abbrev N_l_parts : List Str := ["_law_bag_here", "_law_labels_here", "_law_most", "_law_table_here", "_law_parts_here", "_law_k", "_law_way", "_law_at", "_law_label"]
theorem sc_l_parts : FnScope N_l_parts ["_law_bag_here", "_law_labels_here", "_law_most"] (defScope s_l_parts) := ⟨rfl, rfl, rfl, by decide +kernel, rfl, by decide +kernel, by decide +kernel⟩
abbrev s_l_values : Stmt := top 49
abbrev N_l_values : List Str := ["_law_parts_here", "_law_part"]
theorem sc_l_values : FnScope N_l_values ["_law_parts_here"] (defScope s_l_values) := ⟨rfl, rfl, rfl, by decide +kernel, rfl, by decide +kernel, by decide +kernel⟩
abbrev s_l_table : Stmt := top 50
abbrev N_l_table : List Str := ["_law_parts_here", "_law_found", "_law_part"]
theorem sc_l_table : FnScope N_l_table ["_law_parts_here"] (defScope s_l_table) := ⟨rfl, rfl, rfl, by decide +kernel, rfl, by decide +kernel, by decide +kernel⟩
abbrev s_l_is : Stmt := top 51
abbrev N_l_is : List Str := ["_law_piece", "_law_parts_here", "_law_level", "_law_holes", "_law_part"]
theorem sc_l_is : FnScope N_l_is ["_law_piece", "_law_parts_here", "_law_level"] (defScope s_l_is) := ⟨rfl, rfl, rfl, by decide +kernel, rfl, by decide +kernel, by decide +kernel⟩
abbrev s_l_raised : Stmt := top 52
abbrev N_l_raised : List Str := ["_law_template", "_law_values_here", "_law_table_here", "e"]
theorem sc_l_raised : FnScope N_l_raised ["_law_template", "_law_values_here", "_law_table_here"] (defScope s_l_raised) := ⟨rfl, rfl, rfl, by decide +kernel, rfl, by decide +kernel, by decide +kernel⟩
abbrev s_l_wrong : Stmt := top 53
abbrev N_l_wrong : List Str := ["_law_text_here", "e"]
theorem sc_l_wrong : FnScope N_l_wrong ["_law_text_here"] (defScope s_l_wrong) := ⟨rfl, rfl, rfl, by decide +kernel, rfl, by decide +kernel, by decide +kernel⟩
abbrev s_l_valued : Stmt := top 54
abbrev N_l_valued : List Str := ["_law_parts_here", "_law_bag_here", "_law_table_here", "_law_found", "_law_part", "_law_value_here"]
theorem sc_l_valued : FnScope N_l_valued ["_law_parts_here", "_law_bag_here"] (defScope s_l_valued) := ⟨rfl, rfl, rfl, by decide +kernel, rfl, by decide +kernel, by decide +kernel⟩
abbrev s_l_errors : Stmt := top 55
abbrev N_l_errors : List Str := ["_law_template", "_law_parts_here", "_law_bag_here", "_law_values_here", "_law_table_here", "_law_odd_here", "_law_many", "_law_told", "_law_label", "_law_less", "_law_other"]
theorem sc_l_errors : FnScope N_l_errors ["_law_template", "_law_parts_here", "_law_bag_here"] (defScope s_l_errors) := ⟨rfl, rfl, rfl, by decide +kernel, rfl, by decide +kernel, by decide +kernel⟩
abbrev s_law : Stmt := top 56
abbrev N_law : List Str := ["_law_script", "_law_at", "_law_bag_here", "_law_rows", "_law_parts_here", "_law_templates", "_law_pieces", "_law_dues", "_law_turn", "_law_template", "_law_labels_here", "_law_first", "_law_same", "_law_piece", "_law_text_here", "_law_k", "_law_part", "_law_label"]
theorem sc_law : FnScope N_law ["_law_script"] (defScope s_law) := ⟨rfl, rfl, rfl, by decide +kernel, rfl, by decide +kernel, by decide +kernel⟩
structure Ad where
  a_is_word : Addr
  d_is_word : FuncData
  a_is_count : Addr
  d_is_count : FuncData
  a_is_label : Addr
  d_is_label : FuncData
  a_is_value : Addr
  d_is_value : FuncData
  a_is_literal : Addr
  d_is_literal : FuncData
  a_is_key : Addr
  d_is_key : FuncData
  a_check_value : Addr
  d_check_value : FuncData
  a_read_parts : Addr
  d_read_parts : FuncData
  a_merged : Addr
  d_merged : FuncData
  a_Made_init : Addr
  d_Made_init : FuncData
  a_valued : Addr
  d_valued : FuncData
  a_template_of : Addr
  d_template_of : FuncData
  a_Piece_init : Addr
  d_Piece_init : FuncData
  a_Piece_of : Addr
  d_Piece_of : FuncData
  p_Piece_of : Addr
  a_Piece_parts : Addr
  d_Piece_parts : FuncData
  p_Piece_parts : Addr
  a_Piece_holes : Addr
  d_Piece_holes : FuncData
  a_Piece_len : Addr
  d_Piece_len : FuncData
  a_Piece_bool : Addr
  d_Piece_bool : FuncData
  a_Piece_eq : Addr
  d_Piece_eq : FuncData
  a_Template_init : Addr
  d_Template_init : FuncData
  a_Template_call : Addr
  d_Template_call : FuncData
  t_Template_call_0 : Addr
  a_BadText_init : Addr
  d_BadText_init : FuncData
  a_BadValue_init : Addr
  d_BadValue_init : FuncData
  a_Mismatch_init : Addr
  d_Mismatch_init : FuncData
  a_NoLabel_init : Addr
  d_NoLabel_init : FuncData
  a_Unused_init : Addr
  d_Unused_init : FuncData
  a_l_bag : Addr
  d_l_bag : FuncData
  a_l_take : Addr
  d_l_take : FuncData
  a_l_of : Addr
  d_l_of : FuncData
  a_l_wide : Addr
  d_l_wide : FuncData
  a_l_value : Addr
  d_l_value : FuncData
  a_l_labels : Addr
  d_l_labels : FuncData
  a_l_literal : Addr
  d_l_literal : FuncData
  a_l_merged : Addr
  d_l_merged : FuncData
  a_l_text : Addr
  d_l_text : FuncData
  a_l_hole : Addr
  d_l_hole : FuncData
  a_l_read : Addr
  d_l_read : FuncData
  a_l_spoilt : Addr
  d_l_spoilt : FuncData
  a_l_odd : Addr
  d_l_odd : FuncData
  a_l_parts : Addr
  d_l_parts : FuncData
  a_l_values : Addr
  d_l_values : FuncData
  a_l_table : Addr
  d_l_table : FuncData
  a_l_is : Addr
  d_l_is : FuncData
  a_l_raised : Addr
  d_l_raised : FuncData
  a_l_wrong : Addr
  d_l_wrong : FuncData
  a_l_valued : Addr
  d_l_valued : FuncData
  a_l_errors : Addr
  d_l_errors : FuncData
  a_law : Addr
  d_law : FuncData
  c_Made : Addr
  c_Piece : Addr
  c_Template : Addr
  c_OwnholesError : Addr
  c_BadText : Addr
  c_BadValue : Addr
  c_Mismatch : Addr
  c_NoLabel : Addr
  c_Unused : Addr
structure Txt (K : PySem.W.Frag) (mg : Str → Option Value) (Z : Ad) : Prop where
  F_is_word : Fun K "is_word" "is_word" s_is_word Z.a_is_word Z.d_is_word
  b_is_word : Binds K Z.d_is_word ["thing"] []
  g_is_word : mg "is_word" = some (.ref Z.a_is_word)
  F_is_count : Fun K "is_count" "is_count" s_is_count Z.a_is_count Z.d_is_count
  b_is_count : Binds K Z.d_is_count ["text"] []
  g_is_count : mg "is_count" = some (.ref Z.a_is_count)
  F_is_label : Fun K "is_label" "is_label" s_is_label Z.a_is_label Z.d_is_label
  b_is_label : Binds K Z.d_is_label ["thing"] []
  g_is_label : mg "is_label" = some (.ref Z.a_is_label)
  F_is_value : Fun K "is_value" "is_value" s_is_value Z.a_is_value Z.d_is_value
  b_is_value : Binds K Z.d_is_value ["thing"] []
  g_is_value : mg "is_value" = some (.ref Z.a_is_value)
  F_is_literal : Fun K "is_literal" "is_literal" s_is_literal Z.a_is_literal Z.d_is_literal
  b_is_literal : Binds K Z.d_is_literal ["sign"] []
  g_is_literal : mg "is_literal" = some (.ref Z.a_is_literal)
  F_is_key : Fun K "is_key" "is_key" s_is_key Z.a_is_key Z.d_is_key
  b_is_key : Binds K Z.d_is_key ["key", "kind"] []
  g_is_key : mg "is_key" = some (.ref Z.a_is_key)
  F_check_value : Fun K "check_value" "check_value" s_check_value Z.a_check_value Z.d_check_value
  b_check_value : Binds K Z.d_check_value ["thing"] []
  g_check_value : mg "check_value" = some (.ref Z.a_check_value)
  F_read_parts : Fun K "read_parts" "read_parts" s_read_parts Z.a_read_parts Z.d_read_parts
  b_read_parts : Binds K Z.d_read_parts ["text", "kind"] []
  g_read_parts : mg "read_parts" = some (.ref Z.a_read_parts)
  F_merged : Fun K "merged" "merged" s_merged Z.a_merged Z.d_merged
  b_merged : Binds K Z.d_merged ["parts"] []
  g_merged : mg "merged" = some (.ref Z.a_merged)
  F_Made_init : Fun K "__init__" "Made.__init__" s_Made_init Z.a_Made_init Z.d_Made_init
  b_Made_init : Binds K Z.d_Made_init ["self", "cells", "level"] []
  m_Made_init : Meth K Z.c_Made "__init__" Z.a_Made_init
  F_valued : Fun K "valued" "valued" s_valued Z.a_valued Z.d_valued
  b_valued : Binds K Z.d_valued ["text", "values", "named"] []
  g_valued : mg "valued" = some (.ref Z.a_valued)
  F_template_of : Fun K "template_of" "template_of" s_template_of Z.a_template_of Z.d_template_of
  b_template_of : Binds K Z.d_template_of ["cells"] []
  g_template_of : mg "template_of" = some (.ref Z.a_template_of)
  F_Piece_init : Pz.FunS K "__init__" "Piece.__init__" s_Piece_init "self" "text" "values" "named" (.str "") Z.a_Piece_init
  m_Piece_init : Meth K Z.c_Piece "__init__" Z.a_Piece_init
  F_Piece_of : Fun K "of" "Piece.of" s_Piece_of Z.a_Piece_of Z.d_Piece_of
  b_Piece_of : Binds K Z.d_Piece_of ["cls", "text", "values", "table"] []
  cm_Piece_of : ClX.CMet K Z.c_Piece (.type "type") "of" Z.p_Piece_of Z.a_Piece_of
  F_Piece_parts : Fun K "parts" "Piece.parts" s_Piece_parts Z.a_Piece_parts Z.d_Piece_parts
  b_Piece_parts : Binds K Z.d_Piece_parts ["self"] []
  p_Piece_parts : PropOf K Z.c_Piece "parts" Z.p_Piece_parts Z.a_Piece_parts
  F_Piece_holes : Fun K "holes" "Piece.holes" s_Piece_holes Z.a_Piece_holes Z.d_Piece_holes
  b_Piece_holes : Binds K Z.d_Piece_holes ["self"] []
  m_Piece_holes : Meth K Z.c_Piece "holes" Z.a_Piece_holes
  F_Piece_len : Fun K "__len__" "Piece.__len__" s_Piece_len Z.a_Piece_len Z.d_Piece_len
  b_Piece_len : Binds K Z.d_Piece_len ["self"] []
  m_Piece_len : Meth K Z.c_Piece "__len__" Z.a_Piece_len
  F_Piece_bool : Fun K "__bool__" "Piece.__bool__" s_Piece_bool Z.a_Piece_bool Z.d_Piece_bool
  b_Piece_bool : Binds K Z.d_Piece_bool ["self"] []
  m_Piece_bool : Meth K Z.c_Piece "__bool__" Z.a_Piece_bool
  F_Piece_eq : Fun K "__eq__" "Piece.__eq__" s_Piece_eq Z.a_Piece_eq Z.d_Piece_eq
  b_Piece_eq : Binds K Z.d_Piece_eq ["self", "other"] []
  m_Piece_eq : Meth K Z.c_Piece "__eq__" Z.a_Piece_eq
  F_Template_init : Fun K "__init__" "Template.__init__" s_Template_init Z.a_Template_init Z.d_Template_init
  b_Template_init : Binds K Z.d_Template_init ["self", "text"] []
  m_Template_init : Meth K Z.c_Template "__init__" Z.a_Template_init
  F_Template_call : Co.FunP K "__call__" "Template.__call__" s_Template_call ["self", "values", "table"] [.ref Z.t_Template_call_0, .non] Z.a_Template_call Z.d_Template_call
  bp_Template_call_0 : ∃ ds, Vals [.ref Z.t_Template_call_0, .non] ds ∧ Binds K Z.d_Template_call ["self", "values", "table"] ds
  bp_Template_call_1 : ∃ ds, Vals [.non] ds ∧ Binds K Z.d_Template_call ["self", "values", "table"] ds
  bp_Template_call_2 : ∃ ds, Vals [] ds ∧ Binds K Z.d_Template_call ["self", "values", "table"] ds
  tt_Template_call_0 : ∀ H, SqT K H Z.t_Template_call_0 []
  m_Template_call : Meth K Z.c_Template "__call__" Z.a_Template_call
  F_BadText_init : Fun K "__init__" "BadText.__init__" s_BadText_init Z.a_BadText_init Z.d_BadText_init
  b_BadText_init : Binds K Z.d_BadText_init ["self", "at"] []
  F_BadValue_init : Fun K "__init__" "BadValue.__init__" s_BadValue_init Z.a_BadValue_init Z.d_BadValue_init
  b_BadValue_init : Binds K Z.d_BadValue_init ["self", "value"] []
  F_Mismatch_init : Fun K "__init__" "Mismatch.__init__" s_Mismatch_init Z.a_Mismatch_init Z.d_Mismatch_init
  b_Mismatch_init : Binds K Z.d_Mismatch_init ["self", "wanted", "got"] []
  F_NoLabel_init : Fun K "__init__" "NoLabel.__init__" s_NoLabel_init Z.a_NoLabel_init Z.d_NoLabel_init
  b_NoLabel_init : Binds K Z.d_NoLabel_init ["self", "label"] []
  F_Unused_init : Fun K "__init__" "Unused.__init__" s_Unused_init Z.a_Unused_init Z.d_Unused_init
  b_Unused_init : Binds K Z.d_Unused_init ["self", "label"] []
  F_l_bag : Fun K "_law_bag" "_law_bag" s_l_bag Z.a_l_bag Z.d_l_bag
  b_l_bag : Binds K Z.d_l_bag ["_law_script", "_law_at"] []
  g_l_bag : mg "_law_bag" = some (.ref Z.a_l_bag)
  F_l_take : Fun K "_law_take" "_law_take" s_l_take Z.a_l_take Z.d_l_take
  b_l_take : Binds K Z.d_l_take ["_law_bag_here", "_law_many"] []
  g_l_take : mg "_law_take" = some (.ref Z.a_l_take)
  F_l_of : Fun K "_law_of" "_law_of" s_l_of Z.a_l_of Z.d_l_of
  b_l_of : Binds K Z.d_l_of ["_law_bag_here", "_law_some"] []
  g_l_of : mg "_law_of" = some (.ref Z.a_l_of)
  F_l_wide : Fun K "_law_wide" "_law_wide" s_l_wide Z.a_l_wide Z.d_l_wide
  b_l_wide : Binds K Z.d_l_wide ["_law_bag_here", "_law_many"] []
  g_l_wide : mg "_law_wide" = some (.ref Z.a_l_wide)
  F_l_value : Fun K "_law_value" "_law_value" s_l_value Z.a_l_value Z.d_l_value
  b_l_value : Binds K Z.d_l_value ["_law_bag_here"] []
  g_l_value : mg "_law_value" = some (.ref Z.a_l_value)
  F_l_labels : Fun K "_law_labels" "_law_labels" s_l_labels Z.a_l_labels Z.d_l_labels
  b_l_labels : Binds K Z.d_l_labels ["_law_bag_here", "_law_many"] []
  g_l_labels : mg "_law_labels" = some (.ref Z.a_l_labels)
  F_l_literal : Fun K "_law_literal" "_law_literal" s_l_literal Z.a_l_literal Z.d_l_literal
  b_l_literal : Binds K Z.d_l_literal ["_law_bag_here", "_law_limit"] []
  g_l_literal : mg "_law_literal" = some (.ref Z.a_l_literal)
  F_l_merged : Fun K "_law_merged" "_law_merged" s_l_merged Z.a_l_merged Z.d_l_merged
  b_l_merged : Binds K Z.d_l_merged ["_law_parts_here"] []
  g_l_merged : mg "_law_merged" = some (.ref Z.a_l_merged)
  F_l_text : Fun K "_law_text" "_law_text" s_l_text Z.a_l_text Z.d_l_text
  b_l_text : Binds K Z.d_l_text ["_law_parts_here"] []
  g_l_text : mg "_law_text" = some (.ref Z.a_l_text)
  F_l_hole : Fun K "_law_hole" "_law_hole" s_l_hole Z.a_l_hole Z.d_l_hole
  b_l_hole : Binds K Z.d_l_hole ["_law_text_here", "_law_at", "_law_kind"] []
  g_l_hole : mg "_law_hole" = some (.ref Z.a_l_hole)
  F_l_read : Fun K "_law_read" "_law_read" s_l_read Z.a_l_read Z.d_l_read
  b_l_read : Binds K Z.d_l_read ["_law_text_here", "_law_kind"] []
  g_l_read : mg "_law_read" = some (.ref Z.a_l_read)
  F_l_spoilt : Fun K "_law_spoilt" "_law_spoilt" s_l_spoilt Z.a_l_spoilt Z.d_l_spoilt
  b_l_spoilt : Binds K Z.d_l_spoilt ["_law_bag_here", "_law_text_here"] []
  g_l_spoilt : mg "_law_spoilt" = some (.ref Z.a_l_spoilt)
  F_l_odd : Fun K "_law_odd" "_law_odd" s_l_odd Z.a_l_odd Z.d_l_odd
  b_l_odd : Binds K Z.d_l_odd ["_law_bag_here"] []
  g_l_odd : mg "_law_odd" = some (.ref Z.a_l_odd)
  F_l_parts : Fun K "_law_parts" "_law_parts" s_l_parts Z.a_l_parts Z.d_l_parts
  b_l_parts : Binds K Z.d_l_parts ["_law_bag_here", "_law_labels_here", "_law_most"] []
  g_l_parts : mg "_law_parts" = some (.ref Z.a_l_parts)
  F_l_values : Fun K "_law_values" "_law_values" s_l_values Z.a_l_values Z.d_l_values
  b_l_values : Binds K Z.d_l_values ["_law_parts_here"] []
  g_l_values : mg "_law_values" = some (.ref Z.a_l_values)
  F_l_table : Fun K "_law_table" "_law_table" s_l_table Z.a_l_table Z.d_l_table
  b_l_table : Binds K Z.d_l_table ["_law_parts_here"] []
  g_l_table : mg "_law_table" = some (.ref Z.a_l_table)
  F_l_is : Fun K "_law_is" "_law_is" s_l_is Z.a_l_is Z.d_l_is
  b_l_is : Binds K Z.d_l_is ["_law_piece", "_law_parts_here", "_law_level"] []
  g_l_is : mg "_law_is" = some (.ref Z.a_l_is)
  F_l_raised : Fun K "_law_raised" "_law_raised" s_l_raised Z.a_l_raised Z.d_l_raised
  b_l_raised : Binds K Z.d_l_raised ["_law_template", "_law_values_here", "_law_table_here"] []
  g_l_raised : mg "_law_raised" = some (.ref Z.a_l_raised)
  F_l_wrong : Fun K "_law_wrong" "_law_wrong" s_l_wrong Z.a_l_wrong Z.d_l_wrong
  b_l_wrong : Binds K Z.d_l_wrong ["_law_text_here"] []
  g_l_wrong : mg "_law_wrong" = some (.ref Z.a_l_wrong)
  F_l_valued : Fun K "_law_valued" "_law_valued" s_l_valued Z.a_l_valued Z.d_l_valued
  b_l_valued : Binds K Z.d_l_valued ["_law_parts_here", "_law_bag_here"] []
  g_l_valued : mg "_law_valued" = some (.ref Z.a_l_valued)
  F_l_errors : Fun K "_law_errors" "_law_errors" s_l_errors Z.a_l_errors Z.d_l_errors
  b_l_errors : Binds K Z.d_l_errors ["_law_template", "_law_parts_here", "_law_bag_here"] []
  g_l_errors : mg "_law_errors" = some (.ref Z.a_l_errors)
  F_law : Fun K "law" "law" s_law Z.a_law Z.d_law
  b_law : Binds K Z.d_law ["_law_script"] []
  g_law : mg "law" = some (.ref Z.a_law)
  cl_Made : Cls K Z.c_Made
  g_Made : mg "Made" = some (.ref Z.c_Made)
  mk_Made : Mk K Z.c_Made Z.a_Made_init
  n_Made_cells : NoAttr K Z.c_Made "cells"
  n_Made_level : NoAttr K Z.c_Made "level"
  ki_Made_str : PySem.W.kitOne K (.type "str") (.ref Z.c_Made) = some false
  i_Made : ∀ {H : Hp} {a dx : Addr} {fs : List (Str × V)}, H a = some (.ins Z.c_Made dx fs) → TyOf K H (.ref a) (.ref Z.c_Made)
  cl_Piece : Cls K Z.c_Piece
  g_Piece : mg "Piece" = some (.ref Z.c_Piece)
  mk_Piece : Mk K Z.c_Piece Z.a_Piece_init
  cr_Piece : ClX.CRead K Z.c_Piece (.type "type")
  n_Piece_cells : NoAttr K Z.c_Piece "cells"
  n_Piece_level : NoAttr K Z.c_Piece "level"
  n_Piece_text : NoAttr K Z.c_Piece "text"
  ki_Piece_str : PySem.W.kitOne K (.type "str") (.ref Z.c_Piece) = some false
  ki_Piece_list : PySem.W.kitOne K (.type "list") (.ref Z.c_Piece) = some false
  ki_Piece_int : PySem.W.kitOne K (.type "int") (.ref Z.c_Piece) = some false
  i_Piece : ∀ {H : Hp} {a dx : Addr} {fs : List (Str × V)}, H a = some (.ins Z.c_Piece dx fs) → TyOf K H (.ref a) (.ref Z.c_Piece)
  cl_Template : Cls K Z.c_Template
  g_Template : mg "Template" = some (.ref Z.c_Template)
  mk_Template : Mk K Z.c_Template Z.a_Template_init
  n_Template_text : NoAttr K Z.c_Template "text"
  n_Template_labels : NoAttr K Z.c_Template "labels"
  n_Template_places : NoAttr K Z.c_Template "places"
  fi_Template_call : PySem.W.fnIn K Z.a_Template_call = true
  g_OwnholesError : mg "OwnholesError" = some (.ref Z.c_OwnholesError)
  xn_OwnholesError : Ex.XN K Z.c_OwnholesError
  s_OwnholesError_OwnholesError : PySem.W.subIn K (.ref Z.c_OwnholesError) (.ref Z.c_OwnholesError) = some true
  s_OwnholesError_BadText : PySem.W.subIn K (.ref Z.c_OwnholesError) (.ref Z.c_BadText) = some false
  s_OwnholesError_BadValue : PySem.W.subIn K (.ref Z.c_OwnholesError) (.ref Z.c_BadValue) = some false
  s_OwnholesError_Mismatch : PySem.W.subIn K (.ref Z.c_OwnholesError) (.ref Z.c_Mismatch) = some false
  s_OwnholesError_NoLabel : PySem.W.subIn K (.ref Z.c_OwnholesError) (.ref Z.c_NoLabel) = some false
  s_OwnholesError_Unused : PySem.W.subIn K (.ref Z.c_OwnholesError) (.ref Z.c_Unused) = some false
  g_BadText : mg "BadText" = some (.ref Z.c_BadText)
  xn_BadText : Ex.XN K Z.c_BadText
  x_BadText : Ex.XT K Z.c_BadText Z.a_BadText_init
  no_BadText_at : PySem.W.findIn K (.ref Z.c_BadText) "at" = some none
  s_BadText_OwnholesError : PySem.W.subIn K (.ref Z.c_BadText) (.ref Z.c_OwnholesError) = some true
  s_BadText_BadText : PySem.W.subIn K (.ref Z.c_BadText) (.ref Z.c_BadText) = some true
  s_BadText_BadValue : PySem.W.subIn K (.ref Z.c_BadText) (.ref Z.c_BadValue) = some false
  s_BadText_Mismatch : PySem.W.subIn K (.ref Z.c_BadText) (.ref Z.c_Mismatch) = some false
  s_BadText_NoLabel : PySem.W.subIn K (.ref Z.c_BadText) (.ref Z.c_NoLabel) = some false
  s_BadText_Unused : PySem.W.subIn K (.ref Z.c_BadText) (.ref Z.c_Unused) = some false
  g_BadValue : mg "BadValue" = some (.ref Z.c_BadValue)
  xn_BadValue : Ex.XN K Z.c_BadValue
  x_BadValue : Ex.XT K Z.c_BadValue Z.a_BadValue_init
  no_BadValue_value : PySem.W.findIn K (.ref Z.c_BadValue) "value" = some none
  s_BadValue_OwnholesError : PySem.W.subIn K (.ref Z.c_BadValue) (.ref Z.c_OwnholesError) = some true
  s_BadValue_BadText : PySem.W.subIn K (.ref Z.c_BadValue) (.ref Z.c_BadText) = some false
  s_BadValue_BadValue : PySem.W.subIn K (.ref Z.c_BadValue) (.ref Z.c_BadValue) = some true
  s_BadValue_Mismatch : PySem.W.subIn K (.ref Z.c_BadValue) (.ref Z.c_Mismatch) = some false
  s_BadValue_NoLabel : PySem.W.subIn K (.ref Z.c_BadValue) (.ref Z.c_NoLabel) = some false
  s_BadValue_Unused : PySem.W.subIn K (.ref Z.c_BadValue) (.ref Z.c_Unused) = some false
  g_Mismatch : mg "Mismatch" = some (.ref Z.c_Mismatch)
  xn_Mismatch : Ex.XN K Z.c_Mismatch
  x_Mismatch : Ex.XT K Z.c_Mismatch Z.a_Mismatch_init
  no_Mismatch_wanted : PySem.W.findIn K (.ref Z.c_Mismatch) "wanted" = some none
  no_Mismatch_got : PySem.W.findIn K (.ref Z.c_Mismatch) "got" = some none
  s_Mismatch_OwnholesError : PySem.W.subIn K (.ref Z.c_Mismatch) (.ref Z.c_OwnholesError) = some true
  s_Mismatch_BadText : PySem.W.subIn K (.ref Z.c_Mismatch) (.ref Z.c_BadText) = some false
  s_Mismatch_BadValue : PySem.W.subIn K (.ref Z.c_Mismatch) (.ref Z.c_BadValue) = some false
  s_Mismatch_Mismatch : PySem.W.subIn K (.ref Z.c_Mismatch) (.ref Z.c_Mismatch) = some true
  s_Mismatch_NoLabel : PySem.W.subIn K (.ref Z.c_Mismatch) (.ref Z.c_NoLabel) = some false
  s_Mismatch_Unused : PySem.W.subIn K (.ref Z.c_Mismatch) (.ref Z.c_Unused) = some false
  g_NoLabel : mg "NoLabel" = some (.ref Z.c_NoLabel)
  xn_NoLabel : Ex.XN K Z.c_NoLabel
  x_NoLabel : Ex.XT K Z.c_NoLabel Z.a_NoLabel_init
  no_NoLabel_label : PySem.W.findIn K (.ref Z.c_NoLabel) "label" = some none
  s_NoLabel_OwnholesError : PySem.W.subIn K (.ref Z.c_NoLabel) (.ref Z.c_OwnholesError) = some true
  s_NoLabel_BadText : PySem.W.subIn K (.ref Z.c_NoLabel) (.ref Z.c_BadText) = some false
  s_NoLabel_BadValue : PySem.W.subIn K (.ref Z.c_NoLabel) (.ref Z.c_BadValue) = some false
  s_NoLabel_Mismatch : PySem.W.subIn K (.ref Z.c_NoLabel) (.ref Z.c_Mismatch) = some false
  s_NoLabel_NoLabel : PySem.W.subIn K (.ref Z.c_NoLabel) (.ref Z.c_NoLabel) = some true
  s_NoLabel_Unused : PySem.W.subIn K (.ref Z.c_NoLabel) (.ref Z.c_Unused) = some false
  g_Unused : mg "Unused" = some (.ref Z.c_Unused)
  xn_Unused : Ex.XN K Z.c_Unused
  x_Unused : Ex.XT K Z.c_Unused Z.a_Unused_init
  no_Unused_label : PySem.W.findIn K (.ref Z.c_Unused) "label" = some none
  s_Unused_OwnholesError : PySem.W.subIn K (.ref Z.c_Unused) (.ref Z.c_OwnholesError) = some true
  s_Unused_BadText : PySem.W.subIn K (.ref Z.c_Unused) (.ref Z.c_BadText) = some false
  s_Unused_BadValue : PySem.W.subIn K (.ref Z.c_Unused) (.ref Z.c_BadValue) = some false
  s_Unused_Mismatch : PySem.W.subIn K (.ref Z.c_Unused) (.ref Z.c_Mismatch) = some false
  s_Unused_NoLabel : PySem.W.subIn K (.ref Z.c_Unused) (.ref Z.c_NoLabel) = some false
  s_Unused_Unused : PySem.W.subIn K (.ref Z.c_Unused) (.ref Z.c_Unused) = some true
  u_abs : mg "abs" = none
  u_all : mg "all" = none
  u_bool : mg "bool" = none
  u_enumerate : mg "enumerate" = none
  u_int : mg "int" = none
  u_isinstance : mg "isinstance" = none
  u_len : mg "len" = none
  u_list : mg "list" = none
  u_max : mg "max" = none
  u_min : mg "min" = none
  u_ord : mg "ord" = none
  u_range : mg "range" = none
  u_repr : mg "repr" = none
  u_sorted : mg "sorted" = none
  u_str : mg "str" = none
  u_tuple : mg "tuple" = none
  u_zip : mg "zip" = none
  g_DIGITS : ∃ u, mg "DIGITS" = some u ∧ RelV (.str "0123456789") u
  g_MOST_DIGITS : ∃ u, mg "MOST_DIGITS" = some u ∧ RelV (.int 6) u
  g_MOST_VALUE : ∃ u, mg "MOST_VALUE" = some u ∧ RelV (.int 10000000000000000000000000000000000000000) u
  g_MOST_WORD : ∃ u, mg "MOST_WORD" = some u ∧ RelV (.int 8) u

/-! words, counts, labels, values, signs -/
def sp_is_word : Sp := fun vs H Q _ => ∃ l : List Nat, vs = [.str (S l)] ∧ l.length < 100000 ∧ ∀ H', Same H H' → Q (.bl (wordB l)) H'
def sp_is_count : Sp := fun vs H Q _ => ∃ l : List Nat, vs = [.str (S l)] ∧ l.length < 100000 ∧ ∀ H', Same H H' → Q (.bl (countB l)) H'
def sp_is_label : Sp := fun vs H Q _ => ∃ l : List Nat, vs = [.str (S l)] ∧ l.length < 100000 ∧ ∀ H', Same H H' → Q (.bl (labelB l)) H'
def most : Int := 10000000000000000000000000000000000000000
/-- a value of a hole -/
inductive IsVal : V → Prop
  | int (i : Int) : (if i < 0 then -i else i) < most → IsVal (.int i)
  | str (l : List Nat) : IsVal (.str (S l))
def sp_is_value : Sp := fun vs H Q _ => ∃ v, vs = [v] ∧ IsVal v ∧ Q (.bl true) H
def sp_is_literal : Sp := fun vs H Q _ => ∃ c : Nat, vs = [.str (S [c])] ∧ Q (.bl (litB c)) H
/-- may stand in a text of this kind -/
def keyB (kind : Str) (k : List Nat) : Bool := if decide (kind = "order") = true then decide (k = []) else if decide (kind = "number") = true then !decide (k = [48]) && countB k else labelB k || (decide (kind = "template") && decide (k = []))
def sp_is_key : Sp := fun vs H Q _ => ∃ (k : List Nat) (kind : Str), vs = [.str (S k), .str kind] ∧ k.length < 100000 ∧ ∀ H', Same H H' → Q (.bl (keyB kind k)) H'
theorem str_emp (l : List Nat) : decide (V.str (S l) = V.str "") = decide (l = []) := by
  rw [show ("" : Str) = S [] by decide +kernel, str_eqS]
theorem str_one (l : List Nat) : decide (V.str (S l) = V.str "0") = decide (l = [48]) := by
  rw [show ("0" : Str) = S [48] by decide +kernel, str_eqS]
section
variable {P : Program} {w : World} {K : PySem.W.Frag} {mg : Str → Option Value} {base : Heap} {Z : Ad}
theorem ok_is_word (T : Txt K mg Z) : FnOk P w K mg base CX0 1 Z.a_is_word Z.d_is_word ["thing"] sp_is_word := by
  refine T.F_is_word.ok sc_is_word (fun vs H Q E h => ?_) (fun cdv A outer s H vs Q E hr h => ?_)
  · obtain ⟨l, rfl, _⟩ := h
    rfl
  · obtain ⟨l, rfl, hl, q⟩ := h
    have nd := sc_is_word.nd
    refine ⟨_, (pss_cons (ps_if (PW.pt (pw_or (pt_not (pt_val (pe_callB call_isi (by rfl) T.u_isinstance (by decide +kernel) (pa_cons (pv 0) (pa_cons (pe_bltn (v := .ty "str") (u := .type "str") (by rfl) T.u_str (by decide +kernel) rfl) pa_nil))))) (pw_or1 (pt_not (pt_chain op_le op_le pe_int (pe_callB Tw.cr_lenS (by rfl) T.u_len (by decide +kernel) (pa_cons (pv 0) pa_nil)) (Tw.pe_globS (by rfl) T.g_MOST_WORD))))))
  (pss_one (ps_ret pe_bl))
  pss_nil)
  (pss_one (ps_ret (pe_callB (cr_all rfl) (by rfl) T.u_all (by decide +kernel) (pa_cons (pe_lc (own := [("sign", 1)]) rfl nd (pi_str (pv 0)) (blkOk_by (N := N_is_word) (sc := defScope s_is_word) (by decide +kernel)) (fun _ _ _ _ _ => (pg_name (i := 1) nd rfl (Or.inl rfl))) (fun _ _ _ _ _ => pts_nil) (fun _ _ _ _ _ => (Eg.peE (pe_chain Tw.op_leS Tw.op_leS pe_str (pv 1) pe_str) (by walk_at "blk")))) pa_nil))))), ?_⟩
    refine Eg.w_sig (σ := [some (.str (S l)), none]) rfl ?_
    walk_at "go"
    have wl : wordB l = (decide ((1 : Int) ≤ (l.length : Nat)) && decide (((l.length : Nat) : Int) ≤ 8) && l.all low) := by
      unfold wordB
      congr 2
      · exact decide_eq_decide.mpr (by omega)
      · exact decide_eq_decide.mpr (by omega)
    rw [wl] at q
    by_cases h1 : (1 : Int) ≤ (l.length : Nat)
    · rw [decide_eq_true h1] at q ⊢
      walk_at "go"
      by_cases h2 : ((l.length : Nat) : Int) ≤ 8
      · rw [decide_eq_true h2] at q ⊢
        walk_at "gw"
        refine Tw.map_str (F := fun c => .bl (low c)) hl (fun R h => Eg.w_var rfl h) (fun H' z R s1 hz h => ?_) (fun D H1 hD s1 h1 => ?_)
        · unfold low at h
          walk_at "go"
          refine Eg.br (fun e => ?_) (fun e => ?_)
          · rw [e, Bool.true_and] at h
            walk_at "go"
            exact h
          · rw [e] at h
            walk_at "go"
            exact h
        · walk_at "go"
          refine Tw.all_map h1 ?_
          walk_at "go"
          exact q H1 s1
      · rw [decide_eq_false h2] at q ⊢
        walk_at "go"
        exact q H (Same.refl H)
    · rw [decide_eq_false h1] at q ⊢
      walk_at "go"
      exact q H (Same.refl H)
theorem ok_is_count (T : Txt K mg Z) : FnOk P w K mg base CX0 1 Z.a_is_count Z.d_is_count ["text"] sp_is_count := by
  refine T.F_is_count.ok sc_is_count (fun vs H Q E h => ?_) (fun cdv A outer s H vs Q E hr h => ?_)
  · obtain ⟨l, rfl, _⟩ := h
    rfl
  · obtain ⟨l, rfl, hl, q⟩ := h
    have nd := sc_is_count.nd
    refine ⟨_, (pss_cons (ps_if (PW.pt (pw_or (pt_not (pt_chain op_le op_le pe_int (pe_callB Tw.cr_lenS (by rfl) T.u_len (by decide +kernel) (pa_cons (pv 0) pa_nil)) (Tw.pe_globS (by rfl) T.g_MOST_DIGITS))) (pw_or1 (PW.pt (pw_and (pt_cmpR op_eq (pe_ix ix_str (pv 0) pe_int (fun _ _ => rfl)) pe_str (nomark _)) (pw_and1 (pt_cmpR op_ne (pv 0) pe_str (nomark _))))))))
  (pss_one (ps_ret pe_bl))
  pss_nil)
  (pss_one (ps_ret (pe_callB (cr_all rfl) (by rfl) T.u_all (by decide +kernel) (pa_cons (pe_lc (own := [("sign", 1)]) rfl nd (pi_str (pv 0)) (blkOk_by (N := N_is_count) (sc := defScope s_is_count) (by decide +kernel)) (fun _ _ _ _ _ => (pg_name (i := 1) nd rfl (Or.inl rfl))) (fun _ _ _ _ _ => pts_nil) (fun _ _ _ _ _ => (Eg.peE (pe_cmpR Tw.op_inS (pv 1) (Tw.pe_globS (by rfl) T.g_DIGITS) (by rfl)) (by walk_at "blk")))) pa_nil))))), ?_⟩
    refine Eg.w_sig (σ := [some (.str (S l)), none]) rfl ?_
    walk_at "go"
    have wl : countB l = (decide ((1 : Int) ≤ (l.length : Nat)) && decide (((l.length : Nat) : Int) ≤ 6) && !(decide (l.head? = some 48) && decide (l ≠ [48])) && l.all dig) := by
      unfold countB
      congr 3
      · exact decide_eq_decide.mpr (by omega)
      · exact decide_eq_decide.mpr (by omega)
    rw [wl] at q
    by_cases h1 : (1 : Int) ≤ (l.length : Nat)
    · rw [decide_eq_true h1] at q ⊢
      walk_at "go"
      by_cases h2 : ((l.length : Nat) : Int) ≤ 6
      · rw [decide_eq_true h2] at q ⊢
        walk_at "go"
        cases l with
        | nil => exact absurd h1 (by decide)
        | cons c r =>
          refine Tw.c_ixS hl (n := 0) rfl rfl ?_
          walk_at "go"
          rw [str_one]
          have hc : decide ((c :: r).head? = some 48) = decide ([c] = [48]) := by
            refine decide_eq_decide.mpr ?_
            simp
          rw [hc] at q
          refine Eg.br (fun e => ?_) (fun e => ?_)
          · rw [e] at q
            walk_at "go"
            rw [str_one]
            by_cases e2 : c :: r = [48]
            · rw [decide_eq_false (show ¬ c :: r ≠ [48] from fun z => z e2)] at q
              rw [decide_eq_true e2]
              walk_at "gw"
              refine Tw.map_str (F := fun c => .bl (dig c)) hl (fun R h => Eg.w_var rfl h) (fun H' z R s1 hz h => ?_) (fun D H1 hD s1 h1 => ?_)
              · walk_at "go"
                exact h
              · walk_at "go"
                refine Tw.all_map h1 ?_
                walk_at "go"
                exact q H1 s1
            · rw [decide_eq_true (show c :: r ≠ [48] from e2)] at q
              rw [decide_eq_false e2]
              walk_at "go"
              exact q H (Same.refl H)
          · rw [e] at q
            walk_at "gw"
            refine Tw.map_str (F := fun c => .bl (dig c)) hl (fun R h => Eg.w_var rfl h) (fun H' z R s1 hz h => ?_) (fun D H1 hD s1 h1 => ?_)
            · walk_at "go"
              exact h
            · walk_at "go"
              refine Tw.all_map h1 ?_
              walk_at "go"
              exact q H1 s1
      · rw [decide_eq_false h2] at q ⊢
        walk_at "go"
        exact q H (Same.refl H)
    · rw [decide_eq_false h1] at q ⊢
      walk_at "go"
      exact q H (Same.refl H)
theorem ok_is_label (T : Txt K mg Z) : FnOk P w K mg base CX0 2 Z.a_is_label Z.d_is_label ["thing"] sp_is_label := by
  refine T.F_is_label.ok sc_is_label (fun vs H Q E h => ?_) (fun cdv A outer s H vs Q E hr h => ?_)
  · obtain ⟨l, rfl, _⟩ := h
    rfl
  · obtain ⟨l, rfl, hl, q⟩ := h
    have nd := sc_is_label.nd
    refine ⟨_, (pss_cons (ps_if (pt_not (pt_val (pe_callB call_isi (by rfl) T.u_isinstance (by decide +kernel) (pa_cons (pv 0) (pa_cons (pe_bltn (v := .ty "str") (u := .type "str") (by rfl) T.u_str (by decide +kernel) rfl) pa_nil)))))
  (pss_one (ps_ret pe_bl))
  pss_nil)
  (pss_cons (ps_set (i := 1) nd rfl (Or.inl rfl) (pe_bm PySem.F.plainAttrs_str PySem.F.slot_str_rstrip PySem.F.type_str_rstrip Tw.mt_rs (pv 0) (pa_cons (Tw.pe_globS (by rfl) T.g_DIGITS) pa_nil)))
  (pss_one (ps_ret (pe_and (pe_call (ok_is_word T) (hr.mono (by decide)) (by rfl) T.g_is_word T.F_is_word.kp T.b_is_word .nil pass0 (pa_cons (pv 1) pa_nil)) (pe_one (pe_or (pe_cmpR op_eq (pv 1) (pv 0) (nomark _)) (pe_one (pe_call (ok_is_count T) (hr.mono (by decide)) (by rfl) T.g_is_count T.F_is_count.kp T.b_is_count .nil pass0 (pa_cons (pe_slice sl_str (pv 0) (po_some (pe_callB Tw.cr_lenS (by rfl) T.u_len (by decide +kernel) (pa_cons (pv 1) pa_nil))) po_none) pa_nil)))))))))), ?_⟩
    refine Eg.w_sig (σ := [some (.str (S l)), none]) rfl ?_
    obtain ⟨d, hd, _⟩ := stem_app l
    have hsl : (stem l).length < 100000 := by
      have := congrArg List.length hd
      rw [List.length_append] at this
      omega
    walk_at "go"
    refine ⟨_, rfl, hsl, fun H1 s1 => ?_⟩
    unfold labelB at q
    walk_at "go"
    refine Eg.br (fun e => ?_) (fun e => ?_)
    · rw [e, Bool.true_and] at q
      walk_at "go"
      rw [str_eqS]
      refine Eg.br (fun e => ?_) (fun e => ?_)
      · rw [e] at q
        walk_at "go"
        exact q H1 s1
      · rw [e] at q
        walk_at "go"
        refine Tw.c_slS (m := l.drop (stem l).length) hl (by rw [slice_from (by omega)]; rfl) ?_
        walk_at "go"
        refine ⟨_, rfl, by rw [List.length_drop]; omega, fun H2 s2 => ?_⟩
        walk_at "go"
        exact q H2 (s1.trans s2)
    · rw [e] at q
      walk_at "go"
      exact q H1 s1
theorem ok_is_value (T : Txt K mg Z) : FnOk P w K mg base CX0 1 Z.a_is_value Z.d_is_value ["thing"] sp_is_value := by
  refine T.F_is_value.ok sc_is_value (fun vs H Q E h => ?_) (fun cdv A outer s H vs Q E hr h => ?_)
  · obtain ⟨v, rfl, _⟩ := h
    rfl
  · obtain ⟨v, rfl, hv, q⟩ := h
    have nd := sc_is_value.nd
    refine ⟨_, (pss_cons (ps_if (pt_val (pe_callB call_isi (by rfl) T.u_isinstance (by decide +kernel) (pa_cons (pv 0) (pa_cons (pe_bltn (v := .ty "str") (u := .type "str") (by rfl) T.u_str (by decide +kernel) rfl) pa_nil))))
  (pss_one (ps_ret pe_bl))
  pss_nil)
  (pss_one (ps_ret (pe_and (pe_callB call_isi (by rfl) T.u_isinstance (by decide +kernel) (pa_cons (pv 0) (pa_cons (pe_bltn (v := .ty "int") (u := .type "int") (by rfl) T.u_int (by decide +kernel) rfl) pa_nil))) (pe_and (pe_not (pe_callB call_isi (by rfl) T.u_isinstance (by decide +kernel) (pa_cons (pv 0) (pa_cons (pe_bltn (v := .ty "bool") (u := .type "bool") (by rfl) T.u_bool (by decide +kernel) rfl) pa_nil)))) (pe_one (pe_cmpR op_lt (pe_callB Eg.cr_abs (by rfl) T.u_abs (by decide +kernel) (pa_cons (pv 0) pa_nil)) (Tw.pe_globS (by rfl) T.g_MOST_VALUE) (nomark _)))))))), ?_⟩
    refine Eg.w_sig (σ := [some v]) rfl ?_
    walk_at "go"
    cases hv with
    | str l =>
      walk_at "go"
      exact q
    | int i hi =>
      refine Eg.c_isi (.ty _) (.base (.int i)) (kit_ty (b := "str") (r := false) (by decide +kernel)) ?_
      walk_at "go"
      refine Eg.c_isi (.ty _) (.base (.int i)) (kit_ty (b := "int") (r := true) (by decide +kernel)) ?_
      walk_at "go"
      refine Eg.c_isi (.ty _) (.base (.int i)) (kit_ty (b := "bool") (r := false) (by decide +kernel)) ?_
      walk_at "go"
      unfold most at hi
      rw [decide_eq_true hi]
      exact q
theorem ok_is_literal (T : Txt K mg Z) : FnOk P w K mg base CX0 1 Z.a_is_literal Z.d_is_literal ["sign"] sp_is_literal := by
  refine T.F_is_literal.ok sc_is_literal (fun vs H Q E h => ?_) (fun cdv A outer s H vs Q E hr h => ?_)
  · obtain ⟨c, rfl, _⟩ := h
    rfl
  · obtain ⟨c, rfl, q⟩ := h
    have nd := sc_is_literal.nd
    refine ⟨_, (pss_one (ps_ret (pe_and (pe_chain op_le op_le pe_int (pe_callB Tw.cr_ord (by rfl) T.u_ord (by decide +kernel) (pa_cons (pv 0) pa_nil)) pe_int) (pe_and (pe_cmpR op_ne (pe_callB Tw.cr_ord (by rfl) T.u_ord (by decide +kernel) (pa_cons (pv 0) pa_nil)) pe_int (nomark _)) (pe_one (pe_cmpR Tw.op_notInS (pv 0) pe_str (by rfl))))))), ?_⟩
    refine Eg.w_sig (σ := [some (.str (S [c]))]) rfl ?_
    have e : litB c = (decide ((32 : Int) ≤ (c : Nat)) && decide (((c : Nat) : Int) ≤ 126) && !decide (V.int (c : Nat) = V.int 37) && !decide (c = 123 ∨ c = 125)) := by
      unfold litB
      rw [Eg.int_eq]
      simp only [← Bool.decide_and, ← decide_not]
      refine decide_eq_decide.mpr ?_
      omega
    rw [e] at q
    walk_at "go"
    refine Eg.br (fun e => ?_) (fun e => ?_)
    · rw [e] at q
      walk_at "go"
      refine Eg.br (fun e => ?_) (fun e => ?_)
      · rw [e] at q
        walk_at "go"
        refine Eg.br (fun e => ?_) (fun e => ?_)
        · rw [e] at q
          walk_at "go"
          exact q
        · rw [e] at q
          walk_at "go"
          exact q
      · rw [e] at q
        walk_at "go"
        exact q
    · rw [e] at q
      walk_at "go"
      exact q
theorem ok_is_key (T : Txt K mg Z) : FnOk P w K mg base CX0 3 Z.a_is_key Z.d_is_key ["key", "kind"] sp_is_key := by
  refine T.F_is_key.ok sc_is_key (fun vs H Q E h => ?_) (fun cdv A outer s H vs Q E hr h => ?_)
  · obtain ⟨k, kind, rfl, _⟩ := h
    rfl
  · obtain ⟨k, kind, rfl, hk, q⟩ := h
    have nd := sc_is_key.nd
    refine ⟨_, (pss_cons (ps_if (pt_cmpR op_eq (pv 1) pe_str (nomark _))
  (pss_one (ps_ret (pe_cmpR op_eq (pv 0) pe_str (nomark _))))
  pss_nil)
  (pss_cons (ps_if (pt_cmpR op_eq (pv 1) pe_str (nomark _))
  (pss_one (ps_ret (pe_and (pe_cmpR op_ne (pv 0) pe_str (nomark _)) (pe_one (pe_call (ok_is_count T) (hr.mono (by decide)) (by rfl) T.g_is_count T.F_is_count.kp T.b_is_count .nil pass0 (pa_cons (pv 0) pa_nil))))))
  pss_nil)
  (pss_one (ps_ret (pe_or (pe_call (ok_is_label T) (hr.mono (by decide)) (by rfl) T.g_is_label T.F_is_label.kp T.b_is_label .nil pass0 (pa_cons (pv 0) pa_nil)) (pe_one (pe_and (pe_cmpR op_eq (pv 1) pe_str (nomark _)) (pe_one (pe_cmpR op_eq (pv 0) pe_str (nomark _)))))))))), ?_⟩
    refine Eg.w_sig (σ := [some (.str (S k)), some (.str kind)]) rfl ?_
    unfold keyB at q
    walk_at "go"
    rw [Eg.str_eq]
    refine Eg.br (fun e => ?_) (fun e => ?_)
    · rw [e, if_pos rfl] at q
      walk_at "go"
      rw [str_emp]
      exact q H (Same.refl H)
    · rw [e, if_neg Bool.false_ne_true] at q
      walk_at "go"
      rw [Eg.str_eq]
      refine Eg.br (fun e => ?_) (fun e => ?_)
      · rw [e, if_pos rfl] at q
        walk_at "go"
        rw [str_one]
        refine Eg.br (fun e => ?_) (fun e => ?_)
        · rw [e, Bool.true_and] at q
          walk_at "go"
          refine ⟨_, rfl, hk, fun H1 s1 => ?_⟩
          exact q H1 s1
        · rw [e] at q
          walk_at "go"
          exact q H (Same.refl H)
      · rw [e, if_neg Bool.false_ne_true] at q
        walk_at "go"
        refine ⟨_, rfl, hk, fun H1 s1 => ?_⟩
        walk_at "go"
        refine Eg.br (fun e => ?_) (fun e => ?_)
        · rw [e] at q
          walk_at "go"
          exact q H1 s1
        · rw [e, Bool.false_or] at q
          walk_at "go"
          rw [Eg.str_eq]
          refine Eg.br (fun e => ?_) (fun e => ?_)
          · rw [e, Bool.true_and] at q
            walk_at "go"
            rw [str_emp]
            exact q H1 s1
          · rw [e] at q
            walk_at "go"
            exact q H1 s1
end
end LW
end

section
namespace LW
open PySem L2 SX Tx
/-! the parts of a text -/
def sp_merged : Sp := fun vs H Q _ => ∃ (a : Addr) (xs : List V) (ps : List Pc), vs = [.ref a] ∧ H a = some (.lst xs) ∧ PcsAt H xs ps ∧ (∀ p ∈ ps, p.ok) ∧ ps.length < 90000 ∧ sz ps < 50000 ∧
  ∀ (p : Addr) (ys : List V) (H' : Hp), H p = none → H' p = some (.lst ys) → PcsAt H' ys (merge ps) → Same H H' → Q (.ref p) H'
section
variable {P : Program} {w : World} {K : PySem.W.Frag} {mg : Str → Option Value} {base : Heap} {Z : Ad}
set_option maxHeartbeats 8000000 in
theorem ok_merged (T : Txt K mg Z) : FnOk P w K mg base CX0 1 Z.a_merged Z.d_merged ["parts"] sp_merged := by
  refine T.F_merged.ok sc_merged (fun vs H Q E h => ?_) (fun cdv A outer s H vs Q E hr h => ?_)
  · obtain ⟨a, xs, ps, rfl, _⟩ := h
    rfl
  · obtain ⟨a, xs, ps, rfl, ha, px, pok, pl, pz, q⟩ := h
    have nd := sc_merged.nd
    have hu := hu_of hr
    refine ⟨_, (pss_cons (ps_set (i := 1) nd rfl (Or.inl rfl) (pe_lst pa_nil))
  (pss_cons (ps_for PassesOwn.never rfl (pi_list (pv 0)) (pg_name (i := 2) nd rfl (Or.inl rfl))
  (pss_one (ps_if (pt_cmpR op_ne (pe_ix ix_tup (pv 2) pe_int (fun _ _ => rfl)) pe_str (nomark _))
  (pss_one (ps_expr (pe_bm PySem.F.plainAttrs_list PySem.F.slot_list_append PySem.F.type_list_append mt_append (pv 1) (pa_cons (pv 2) pa_nil))))
  (pss_one (ps_if (PW.pt (pw_and (pt_cmpR op_ne (pe_ix ix_tup (pv 2) pe_int (fun _ _ => rfl)) pe_str (nomark _)) (pw_and (pt_cmpR (Tw.op_neE (Nat.lt_of_succ_lt hu)) (pv 1) (pe_lst pa_nil) (nomark _)) (pw_and1 (pt_cmpR op_eq (pe_ix ix_tup (pe_ix ix_list (pv 1) (pe_un un_neg pe_int) (fun _ _ => rfl)) pe_int (fun _ _ => rfl)) pe_str (nomark _))))))
  (pss_one (ps_asg (pe_tup (pa_cons pe_str (pa_cons (pe_op Es.op_addS (pe_ix ix_tup (pe_ix ix_list (pv 1) (pe_un un_neg pe_int) (fun _ _ => rfl)) pe_int (fun _ _ => rfl)) (pe_ix ix_tup (pv 2) pe_int (fun _ _ => rfl))) pa_nil))) (pg_sub (pv 1) (pe_un un_neg pe_int) set_list)))
  (pss_one (ps_if (pt_cmpR op_ne (pe_ix ix_tup (pv 2) pe_int (fun _ _ => rfl)) pe_str (nomark _))
  (pss_one (ps_expr (pe_bm PySem.F.plainAttrs_list PySem.F.slot_list_append PySem.F.type_list_append mt_append (pv 1) (pa_cons (pv 2) pa_nil))))
  pss_nil)))))))
  (pss_one (ps_ret (pv 1))))), ?_⟩
    refine Eg.w_sig (σ := [some (.ref a), none, none]) rfl ?_
    walk_at "go"
    intro f hf
    walk_at "go"
    have len := px.len
    have hfa : f ≠ a := (ne_of_none ha hf).symm
    refine for_list (xs := xs) (fun j σ' H' => ∃ (v2 : Option V) (ys : List V), σ' = [some (.ref a), some (.ref f), v2] ∧ H' f = some (.lst ys) ∧ PcsAt H' ys (merge (ps.take j)) ∧ Same H H') ⟨none, [], rfl, upd_same, .nil, fun c o e => Eg.upd_old e hf⟩ ?_ ?_ ?_
    · rintro j _ H1 _ ⟨v2, ys, rfl, _, _, s1⟩
      exact SqL.of (s1 _ _ ha)
    · rintro j x _ H1 hx ⟨v2, ys, rfl, h1f, py, s1⟩
      obtain ⟨p, t, hp, rfl, ht0⟩ := px.get hx
      have ht := s1 _ _ ht0
      have hpo := pok p (List.mem_of_getElem? hp)
      obtain ⟨hlt, he⟩ := List.getElem?_eq_some_iff.mp hp
      have tk : ps.take (j + 1) = ps.take j ++ [p] := by rw [List.take_succ_eq_append_getElem hlt, he]
      have szz := sz_get hp
      have yl := py.len
      have ml := merge_len (ps.take j)
      rw [List.length_take] at ml
      have fresh : ∀ c o, H c = some o → c ≠ f := fun c o e => ne_of_none e hf
      cases p with
      | oth tg zs =>
        have ht : H1 t = some (.tup (.str tg :: zs)) := ht
        have hne : decide (V.str tg = V.str "say") = false := decide_eq_false fun z => hpo.1 (V.str.inj z)
        walk_at "go"
        rw [hne]
        walk_at "go"
        refine ⟨_, _, rfl, upd_same, ?_, fun c o e => Eg.upd_mut (fresh c o e) (s1 c o e)⟩
        rw [tk, merge_snoc]
        have tf : t ≠ f := ne_of ht h1f (fun z => nomatch z)
        exact PcsAt.app (py.same fun b ys e => Eg.upd_mut (ne_of e h1f (fun z => nomatch z)) e) (PcsAt.one (p := .oth tg zs) (Eg.upd_mut tf ht))
      | say l =>
        have ht : H1 t = some (.tup [.str "say", .str (S l)]) := ht
        have hne : decide (V.str "say" = V.str "say") = true := decide_eq_true rfl
        have tf : t ≠ f := ne_of ht h1f (fun z => nomatch z)
        have szl : l.length ≤ sz ps := Nat.le_trans (Nat.le_add_left _ _) szz
        walk_at "go"
        rw [hne]
        walk_at "go"
        rw [str_emp]
        by_cases hl : l = []
        · rw [decide_eq_true hl]
          walk_at "go"
          rw [str_emp, decide_eq_true hl]
          walk_at "go"
          subst hl
          refine ⟨_, _, rfl, h1f, ?_, s1⟩
          rw [tk, merge_snoc]
          exact py
        · rw [decide_eq_false hl]
          walk_at "go"
          intro n0 hn0
          have s2 : Same H1 (upd H1 n0 (.lst [])) := fun b o e => Eg.upd_old e hn0
          have h2n : upd H1 n0 (.lst []) n0 = some (.lst []) := upd_same
          have hn0f : n0 ≠ f := (ne_of_none h1f hn0).symm
          generalize upd H1 n0 (.lst []) = H2 at s2 h2n ⊢
          have h2f := s2 _ _ h1f
          have h2t := s2 _ _ ht
          have py2 := py.same fun b ys e => s2 _ _ e
          have s02 := s1.trans s2
          clear s1 s2 py ht h1f hn0
          walk_at "go"
          have fin : (∀ m, (merge (ps.take j)).getLast? ≠ some (.say m)) → ∃ (v2 : Option V) (ys' : List V), [some (V.ref a), some (V.ref f), some (V.ref t)] = [some (V.ref a), some (V.ref f), v2] ∧ upd H2 f (.lst (ys ++ [V.ref t])) f = some (.lst ys') ∧ PcsAt (upd H2 f (.lst (ys ++ [V.ref t]))) ys' (merge (ps.take (j + 1))) ∧ Same H (upd H2 f (.lst (ys ++ [V.ref t]))) := fun hno => by
            refine ⟨_, _, rfl, upd_same, ?_, fun c o e => Eg.upd_mut (fresh c o e) (s02 c o e)⟩
            rw [tk, merge_snoc, put_say_new hl hno]
            exact PcsAt.app (py2.same fun b ys e => Eg.upd_mut (ne_of e h2f (fun z => nomatch z)) e) (PcsAt.one (p := .say l) (Eg.upd_mut tf h2t))
          cases hlast : (merge (ps.take j)).getLast? with
          | none =>
            have hno : ∀ m, (merge (ps.take j)).getLast? ≠ some (.say m) := by rw [hlast]; exact fun _ z => nomatch z
            have me : merge (ps.take j) = [] := List.getLast?_eq_none_iff.mp hlast
            have ye : ys = [] := List.eq_nil_of_length_eq_zero (by rw [yl, me]; rfl)
            rw [show ys.isEmpty = true by rw [ye]; rfl]
            walk_at "go"
            rw [str_emp, decide_eq_false hl]
            walk_at "go"
            exact fin hno
          | some q0 =>
            obtain ⟨t0, hl0, ht0⟩ := py2.last hlast
            have yne : ys ≠ [] := fun z => by rw [z] at hl0; cases hl0
            rw [show ys.isEmpty = false by cases ys with | nil => exact absurd rfl yne | cons _ _ => rfl]
            have pos : 0 < ys.length := List.length_pos_iff.mpr yne
            have mok := merge_ok (ps := ps.take j) (fun z hz => pok z (List.mem_of_mem_take hz)) q0 (List.mem_of_getLast? hlast)
            cases q0 with
            | oth tg zs =>
              have ht0 : H2 t0 = some (.tup (.str tg :: zs)) := ht0
              have hne : decide (V.str tg = V.str "say") = false := decide_eq_false fun z => mok.1 (V.str.inj z)
              walk_at "go"
              rw [hne]
              walk_at "go"
              rw [str_emp, decide_eq_false hl]
              walk_at "go"
              exact fin (by rw [hlast]; exact fun _ z => nomatch z)
            | say m =>
              have ht0 : H2 t0 = some (.tup [.str "say", .str (S m)]) := ht0
              have hm : m.length ≤ sz (ps.take j) := by
                have := sz_last hlast
                rw [sz_merge] at this
                exact this
              walk_at "go"
              rw [hne]
              walk_at "go"
              intro t1 ht1
              walk_at "go"
              have h3f : upd H2 t1 (.tup [.str "say", .str (S (m ++ l))]) f = some (.lst ys) := Eg.upd_old h2f ht1
              have h3t : upd H2 t1 (.tup [.str "say", .str (S (m ++ l))]) t1 = some (.tup [.str "say", .str (S (m ++ l))]) := upd_same
              have py3 := py2.same fun b zs e => (Eg.upd_old e ht1 : upd H2 t1 (.tup [.str "say", .str (S (m ++ l))]) b = _)
              have s03 : Same H (upd H2 t1 (.tup [.str "say", .str (S (m ++ l))])) := fun c o e => Eg.upd_old (s02 c o e) ht1
              generalize upd H2 t1 (.tup [.str "say", .str (S (m ++ l))]) = H3 at h3f h3t py3 s03 ⊢
              have t1f : t1 ≠ f := ne_of h3t h3f (fun z => nomatch z)
              refine Eg.w_setL h3f (ixN_last pos) ?_
              walk_at "go"
              refine ⟨_, _, rfl, upd_same, ?_, fun c o e => Eg.upd_mut (fresh c o e) (s03 c o e)⟩
              rw [tk, merge_snoc, put_say_say hl hlast, set_last yne]
              exact PcsAt.app (py3.dropLast.same fun b ys e => Eg.upd_mut (ne_of e h3f (fun z => nomatch z)) e) (PcsAt.one (p := .say (m ++ l)) (Eg.upd_mut t1f h3t))
    · rintro _ H1 ⟨v2, ys, rfl, h1f, py, s1⟩
      rw [len, List.take_length] at py
      walk_at "go"
      exact q f ys H1 hf h1f py s1
/-- a token that may be read -/
def RdOk (kind : Str) : Tk → Prop
  | .ch c => litB c = true
  | .ho k => kind ≠ "literal" ∧ 125 ∉ k ∧ keyB kind k = true
def sp_read_parts : Sp := fun vs H Q _ => ∃ (ts : List Tk) (kind : Str), vs = [.str (S (flat ts)), .str kind] ∧ (flat ts).length < 40000 ∧ (∀ t ∈ ts, RdOk kind t) ∧
  ∀ (p : Addr) (ys : List V) (H' : Hp), H p = none → H' p = some (.lst ys) → PcsAt H' ys (merge (raw [] ts)) → Same H H' → Q (.ref p) H'
theorem lit_ne {c : Nat} (h : litB c = true) : decide (V.str (S [c]) = V.str "{") = false := by
  rw [show ("{" : Str) = S [123] by decide +kernel, str_eqS]
  refine decide_eq_false fun z => ?_
  have : c = 123 := by simpa using z
  subst this
  revert h
  decide
set_option maxHeartbeats 8000000 in
theorem ok_read_parts (T : Txt K mg Z) : FnOk P w K mg base CX0 4 Z.a_read_parts Z.d_read_parts ["text", "kind"] sp_read_parts := by
  refine T.F_read_parts.ok sc_read_parts (fun vs H Q E h => ?_) (fun cdv A outer s H vs Q E hr h => ?_)
  · obtain ⟨ts, kind, rfl, _⟩ := h
    rfl
  · obtain ⟨ts, kind, rfl, hl, hok, q⟩ := h
    have nd := sc_read_parts.nd
    refine ⟨_, (pss_cons (ps_if (pt_not (pt_val (pe_callB call_isi (by rfl) T.u_isinstance (by decide +kernel) (pa_cons (pv 0) (pa_cons (pe_bltn (v := .ty "str") (u := .type "str") (by rfl) T.u_str (by decide +kernel) rfl) pa_nil)))))
  (pss_one Tw.ps_dead)
  pss_nil)
  (pss_cons (ps_set (i := 2) nd rfl (Or.inl rfl) (pe_lst pa_nil))
  (pss_cons (ps_set (i := 3) nd rfl (Or.inl rfl) pe_int)
  (pss_cons (ps_set (i := 4) nd rfl (Or.inl rfl) pe_int)
  (pss_cons (ps_while PassesOwn.never (pt_cmpR op_lt (pv 3) (pe_callB Tw.cr_lenS (by rfl) T.u_len (by decide +kernel) (pa_cons (pv 0) pa_nil)) (nomark _))
  (pss_one (ps_if (PW.pt (pw_and (pt_cmpR op_eq (pe_ix ix_str (pv 0) (pv 3) (fun _ _ => rfl)) pe_str (nomark _)) (pw_and1 (pt_cmpR op_ne (pv 1) pe_str (nomark _)))))
  (pss_cons (ps_set (i := 5) nd rfl (Or.inl rfl) (pe_bm PySem.F.plainAttrs_str PySem.F.slot_str_find PySem.F.type_str_find Tw.mt_f3 (pv 0) (pa_cons pe_str (pa_cons (pv 3) pa_nil))))
  (C8.pss_cut (ps_set (i := 6) nd rfl (Or.inl rfl) (pe_ifExp (pt_cmpR op_gt (pv 5) (pv 3) (nomark _)) (pe_slice sl_str (pv 0) (po_some (pe_op op_add (pv 3) pe_int)) (po_some (pv 5))) pe_str))
  (pss_cons (ps_if (pt_not (pt_val (pe_call (ok_is_key T) (hr.mono (by decide)) (by rfl) T.g_is_key T.F_is_key.kp T.b_is_key .nil pass0 (pa_cons (pv 6) (pa_cons (pv 1) pa_nil)))))
  (pss_one Tw.ps_dead)
  pss_nil)
  (pss_cons (ps_expr (pe_bm PySem.F.plainAttrs_list PySem.F.slot_list_append PySem.F.type_list_append mt_append (pv 2) (pa_cons (pe_tup (pa_cons pe_str (pa_cons (pe_slice sl_str (pv 0) (po_some (pv 4)) (po_some (pv 3))) pa_nil))) pa_nil)))
  (pss_cons (ps_expr (pe_bm PySem.F.plainAttrs_list PySem.F.slot_list_append PySem.F.type_list_append mt_append (pv 2) (pa_cons (pe_tup (pa_cons pe_str (pa_cons (pv 6) pa_nil))) pa_nil)))
  (pss_cons (ps_set (i := 3) nd rfl (Or.inl rfl) (pe_op op_add (pv 5) pe_int))
  (pss_one (ps_set (i := 4) nd rfl (Or.inl rfl) (pv 3)))))))))
  (pss_one (ps_if (pt_val (pe_call (ok_is_literal T) (hr.mono (by decide)) (by rfl) T.g_is_literal T.F_is_literal.kp T.b_is_literal .nil pass0 (pa_cons (pe_ix ix_str (pv 0) (pv 3) (fun _ _ => rfl)) pa_nil)))
  (pss_one (ps_set (i := 3) nd rfl (Or.inl rfl) (pe_op op_add (pv 3) pe_int)))
  (pss_one Tw.ps_dead))))))
  (pss_cons (ps_expr (pe_bm PySem.F.plainAttrs_list PySem.F.slot_list_append PySem.F.type_list_append mt_append (pv 2) (pa_cons (pe_tup (pa_cons pe_str (pa_cons (pe_slice sl_str (pv 0) (po_some (pv 4)) po_none) pa_nil))) pa_nil)))
  (pss_one (ps_ret (pe_call (ok_merged T) (hr.mono (by decide)) (by rfl) T.g_merged T.F_merged.kp T.b_merged .nil pass0 (pa_cons (pv 2) pa_nil)))))))))), ?_⟩
    refine Eg.w_sig (σ := [some (.str (S (flat ts))), some (.str kind), none, none, none, none, none]) rfl ?_
    have hl1 : (flat ts).length < 100000 := by omega
    walk_at "go"
    intro f hf
    walk_at "go"
    have fresh : ∀ c o, H c = some o → c ≠ f := fun c o e => ne_of_none e hf
    refine ⟨fun m σ' H' => ∃ (v5 v6 : Option V) (pre cur : List Nat) (rest : List Tk) (ys : List V) (ps : List Pc), m = rest.length ∧ σ' = [some (.str (S (flat ts))), some (.str kind), some (.ref f), some (.int ((pre.length + cur.length : Nat) : Int)), some (.int (pre.length : Nat)), v5, v6] ∧ flat ts = pre ++ (cur ++ flat rest) ∧ (∀ t ∈ rest, RdOk kind t) ∧ H' f = some (.lst ys) ∧ PcsAt H' ys ps ∧ raw [] ts = ps ++ raw cur rest ∧ Same H H',
      ⟨_, none, none, [], [], ts, [], [], rfl, rfl, rfl, hok, upd_same, .nil, rfl, fun c o e => Eg.upd_old e hf⟩, ?_⟩
    rintro m _ H1 ⟨v5, v6, pre, cur, rest, ys, ps, rfl, rfl, hfl, hro, h1f, py, hraw, s1⟩
    have len := congrArg List.length hfl
    rw [List.length_append, List.length_append] at len
    have rl := raw_len ts []
    have fl := flat_len ts
    have yl := py.len
    have pl := congrArg List.length hraw
    rw [List.length_append] at pl
    cases rest with
    | nil =>
      have e0 : (flat []).length = 0 := rfl
      have len2 : (flat ts).length = pre.length + cur.length := by omega
      have sl : Txt.slice (S (flat ts)) (some ((pre.length : Nat) : Int)) none = S cur := by
        rw [hfl]
        show Txt.slice (S (pre ++ (cur ++ []))) _ _ = _
        rw [List.append_nil]
        exact from_app pre cur rfl
      have rz := raw_sz ts []
      have e1 : ([] : List Nat).length = 0 := rfl
      walk_at "go"
      refine Eg.brDF (by omega) ?_
      walk_at "go"
      refine Tw.c_slS hl1 sl ?_
      walk_at "go"
      intro t1 ht1
      walk_at "go"
      have h2f : upd H1 t1 (.tup [.str "say", .str (S cur)]) f = some (.lst ys) := Eg.upd_old h1f ht1
      have h2t : upd H1 t1 (.tup [.str "say", .str (S cur)]) t1 = some (.tup (Pc.say cur).vs) := upd_same
      have py2 := py.same fun b zs e => (Eg.upd_old e ht1 : upd H1 t1 (.tup [.str "say", .str (S cur)]) b = _)
      have s02 : Same H (upd H1 t1 (.tup [.str "say", .str (S cur)])) := fun c o e => Eg.upd_old (s1 c o e) ht1
      generalize upd H1 t1 (.tup [.str "say", .str (S cur)]) = H2 at h2f h2t py2 s02 ⊢
      have t1f : t1 ≠ f := ne_of h2t h2f (fun z => nomatch z)
      walk_at "go"
      refine ⟨f, _, ps ++ [.say cur], rfl, upd_same, PcsAt.app (py2.same fun b zs e => Eg.upd_mut (ne_of e h2f (fun z => nomatch z)) e) (PcsAt.one (Eg.upd_mut t1f h2t)), ?_, ?_, ?_, fun p zs H3 hp h3p pz s3 => ?_⟩
      · rw [← show raw cur [] = [Pc.say cur] from rfl, ← hraw]
        exact raw_ok ts []
      · rw [← show raw cur [] = [Pc.say cur] from rfl, ← hraw]
        omega
      · rw [← show raw cur [] = [Pc.say cur] from rfl, ← hraw]
        omega
      · walk_at "go"
        rw [← show raw cur [] = [Pc.say cur] from rfl, ← hraw] at pz
        refine q p zs H3 ?_ h3p pz fun c o e => s3 _ _ (Eg.upd_mut (fresh c o e) (s02 c o e))
        cases z : H p with
        | none => rfl
        | some o =>
          rw [Eg.upd_mut (fresh p o z) (s02 p o z)] at hp
          cases hp
    | cons t rest =>
      have rt := hro t List.mem_cons_self
      have rr : ∀ t ∈ rest, RdOk kind t := fun z hz => hro z (List.mem_cons_of_mem _ hz)
      cases t with
      | ch c =>
        have rt : litB c = true := rt
        have hat : (flat ts)[pre.length + cur.length]? = some c := by
          rw [hfl, ← List.append_assoc, List.getElem?_append_right (by rw [List.length_append]; exact Nat.le_refl _), List.length_append, Nat.sub_self]
          rfl
        have ef : flat (.ch c :: rest) = c :: flat rest := rfl
        rw [ef, List.length_cons] at len
        walk_at "go"
        refine Eg.brDT (by omega) ?_
        refine ⟨fun σ' H' => ∃ m', m' < (Tk.ch c :: rest).length ∧ _, fun σ' H' h => h, ?_⟩
        walk_at "go"
        refine Tw.c_ixS hl1 rfl hat ?_
        walk_at "go"
        rw [lit_ne rt]
        walk_at "go"
        refine Tw.c_ixS hl1 rfl hat ?_
        walk_at "go"
        refine ⟨c, rfl, ?_⟩
        rw [rt]
        walk_at "go"
        refine ⟨rest.length, Nat.lt_succ_self _, v5, v6, pre, cur ++ [c], rest, ys, ps, rfl, ?_, ?_, rr, h1f, py, hraw, s1⟩
        · rw [List.length_append]
          rfl
        · rw [hfl, ef]
          simp
      | ho k =>
        obtain ⟨hk1, hk2, hk3⟩ := rt
        have ef : flat (.ho k :: rest) = 123 :: (k ++ 125 :: flat rest) := rfl
        rw [ef, List.length_cons, List.length_append, List.length_cons] at len
        have hat : (flat ts)[pre.length + cur.length]? = some 123 := by
          rw [hfl, ← List.append_assoc, List.getElem?_append_right (by rw [List.length_append]; exact Nat.le_refl _), List.length_append, Nat.sub_self]
          rfl
        have kn : decide (V.str kind = V.str "literal") = false := decide_eq_false fun z => hk1 (V.str.inj z)
        have br : decide (V.str (S [123]) = V.str "{") = true := by
          rw [show ("{" : Str) = S [123] by decide +kernel, decide_eq_true rfl]
        have fd : Txt.find3 (S (flat ts)) (S [125]) ((pre.length + cur.length : Nat) : Int) = ((pre.length + cur.length + (k.length + 1) : Nat) : Int) := by
          have := find_mid (pre ++ cur) (123 :: k) (flat rest) 125 (i := ((pre.length + cur.length : Nat) : Int)) (by rw [List.length_append]) (fun z => by
            rcases List.mem_cons.mp z with z | z
            · exact absurd z (by decide)
            · exact hk2 z)
          rw [List.length_append, List.length_cons] at this
          rw [← this, hfl, ef]
          simp
        have s1k : Txt.slice (S (flat ts)) (some (((pre.length + cur.length : Nat) : Int) + 1)) (some ((pre.length + cur.length + (k.length + 1) : Nat) : Int)) = S k := by
          have := slice_mid (pre ++ cur ++ [123]) k (125 :: flat rest) (i := ((pre.length + cur.length : Nat) : Int) + 1) (j := ((pre.length + cur.length + (k.length + 1) : Nat) : Int)) (by rw [List.length_append, List.length_append]; rfl) (by rw [List.length_append, List.length_append]; simp; omega)
          rw [← this, hfl, ef]
          simp
        have s2k : Txt.slice (S (flat ts)) (some ((pre.length : Nat) : Int)) (some ((pre.length + cur.length : Nat) : Int)) = S cur := by
          rw [hfl]
          exact slice_mid pre cur _ rfl rfl
        walk_at "go"
        refine Eg.brDT (by omega) ?_
        refine ⟨fun σ' H' => ∃ m', m' < (Tk.ho k :: rest).length ∧ _, fun σ' H' h => h, ?_⟩
        walk_at "go"
        refine Tw.c_ixS hl1 rfl hat ?_
        walk_at "go"
        rw [br]
        walk_at "go"
        rw [kn]
        walk_at "go"
        refine ⟨_, _, _, rfl, rfl, ?_⟩
        rw [show ("}" : Str) = S [125] by decide +kernel, fd]
        walk_at "go"
        refine ⟨fun σ' H' => σ' = [some (.str (S (flat ts))), some (.str kind), some (.ref f), some (.int ((pre.length + cur.length : Nat) : Int)), some (.int (pre.length : Nat)), some (.int ((pre.length + cur.length + (k.length + 1) : Nat) : Int)), some (.str (S k))] ∧ H1 = H', ?_, ?_⟩
        · walk_at "go"
          refine Eg.brDT (by omega) ?_
          walk_at "go"
          refine Tw.c_slS hl1 s1k ?_
          walk_at "go"
          exact ⟨rfl, rfl⟩
        rintro _ _ ⟨rfl, rfl⟩
        walk_at "go"
        refine ⟨k, kind, rfl, by omega, fun H2 s2 => ?_⟩
        rw [hk3]
        have s02 := s1.trans s2
        have h2f := s2 _ _ h1f
        have py2 := py.same fun b zs e => s2 _ _ e
        clear s1 s2 h1f py H1
        walk_at "go"
        refine Tw.c_slS hl1 s2k ?_
        walk_at "go"
        intro t1 ht1
        walk_at "go"
        have h3f : upd H2 t1 (.tup [.str "say", .str (S cur)]) f = some (.lst ys) := Eg.upd_old h2f ht1
        have h3t : upd H2 t1 (.tup [.str "say", .str (S cur)]) t1 = some (.tup (Pc.say cur).vs) := upd_same
        have py3 := py2.same fun b zs e => (Eg.upd_old e ht1 : upd H2 t1 (.tup [.str "say", .str (S cur)]) b = _)
        have s03 : Same H (upd H2 t1 (.tup [.str "say", .str (S cur)])) := fun c o e => Eg.upd_old (s02 c o e) ht1
        generalize upd H2 t1 (.tup [.str "say", .str (S cur)]) = H3 at h3f h3t py3 s03 ⊢
        have t1f : t1 ≠ f := ne_of h3t h3f (fun z => nomatch z)
        clear h2f py2 s02 ht1 H2
        walk_at "go"
        intro t2 ht2
        have py4 := PcsAt.app (py3.same fun b zs e => (Eg.upd_mut (ne_of e h3f (fun z => nomatch z)) e : upd H3 f (.lst (ys ++ [.ref t1])) b = _)) (PcsAt.one (p := .say cur) (Eg.upd_mut t1f h3t))
        have s04 : Same H (upd H3 f (.lst (ys ++ [.ref t1]))) := fun c o e => Eg.upd_mut (fresh c o e) (s03 c o e)
        have h4f : upd H3 f (.lst (ys ++ [.ref t1])) f = some (.lst (ys ++ [.ref t1])) := upd_same
        generalize upd H3 f (.lst (ys ++ [.ref t1])) = H4 at ht2 py4 s04 h4f ⊢
        have py5 := py4.same fun b zs e => (Eg.upd_old e ht2 : upd H4 t2 (.tup [.str "hole", .str (S k)]) b = _)
        have s05 : Same H (upd H4 t2 (.tup [.str "hole", .str (S k)])) := fun c o e => Eg.upd_old (s04 c o e) ht2
        have h5f : upd H4 t2 (.tup [.str "hole", .str (S k)]) f = some (.lst (ys ++ [.ref t1])) := Eg.upd_old h4f ht2
        have h5t : upd H4 t2 (.tup [.str "hole", .str (S k)]) t2 = some (.tup (hole k).vs) := upd_same
        generalize upd H4 t2 (.tup [.str "hole", .str (S k)]) = H5 at py5 s05 h5f h5t ⊢
        have t2f : t2 ≠ f := ne_of h5t h5f (fun z => nomatch z)
        clear py4 s04 h4f ht2 py3 h3f h3t s03
        walk_at "go"
        refine ⟨rest.length, Nat.lt_succ_self _, some (.int ((pre.length + cur.length + (k.length + 1) : Nat) : Int)), some (.str (S k)), pre ++ cur ++ (123 :: (k ++ [125])), [], rest, _, ps ++ [.say cur] ++ [hole k], rfl, ?_, ?_, rr, upd_same, PcsAt.app (py5.same fun b zs e => Eg.upd_mut (ne_of e h5f (fun z => nomatch z)) e) (PcsAt.one (Eg.upd_mut t2f h5t)), ?_, fun c o e => Eg.upd_mut (fresh c o e) (s05 c o e)⟩
        · have e1 : ((pre.length + cur.length + (k.length + 1) : Nat) : Int) + 1 = (((pre ++ cur ++ (123 :: (k ++ [125]))).length : Nat) : Int) := by
            simp only [List.length_append, List.length_cons, List.length_nil]
            omega
          rw [e1]
          rfl
        · rw [hfl, ef]
          simp
        · rw [hraw]
          show ps ++ (.say cur :: hole k :: raw [] rest) = _
          simp
end
end LW
end

section
namespace LW
open PySem L2 SX Tx
/-! what a law of texts draws from -/
def BagB (H : Hp) (a : Addr) : Prop := ∃ d m : Int, H a = some (.lst [.int d, .int m]) ∧ 0 ≤ d ∧ 0 ≤ m ∧ m < 2147483648
theorem BagB.ob {H : Hp} {a : Addr} (h : BagB H a) : ∃ xs, H a = some (.lst xs) := let ⟨_, _, e, _⟩ := h; ⟨_, e⟩
theorem BagB.to {H H' : Hp} {a : Addr} (h : BagB H a) (e : H' a = H a) : BagB H' a := let ⟨d, m, h1, h2⟩ := h; ⟨d, m, e.trans h1, h2⟩
theorem BagB.keep {H H' : Hp} {a : Addr} (h : BagB H a) (s : Same H H') : BagB H' a := let ⟨d, m, h1, h2⟩ := h; ⟨d, m, s _ _ h1, h2⟩
/-- all but the bag stands -/
def KeptB (b : Addr) (H H' : Hp) : Prop := ∀ c o, H c = some o → c ≠ b → H' c = some o
theorem KeptB.trans {b : Addr} {H H' H'' : Hp} (h : KeptB b H H') (h' : KeptB b H' H'') : KeptB b H H'' := fun c o e n => h' c o (h c o e n) n
theorem KeptB.of {b : Addr} {H H' : Hp} (h : Same H H') : KeptB b H H' := fun c o e _ => h c o e
theorem KeptB.fr {b : Addr} {H H' : Hp} (h : ∀ c, c ≠ b → H' c = H c) : KeptB b H H' := fun c o e n => (h c n).trans e
def sp_l_bag (K : PySem.W.Frag) : Sp := fun vs H Q _ => ∃ (a : Addr) (ns : List Int) (i : Int), vs = [.ref a, .int i] ∧ SqL K H a (ns.map V.int) ∧ ns.length ≤ 63 ∧ 0 ≤ i ∧ i < 100 ∧
  ∀ (b : Addr) (H' : Hp), H b = none → BagB H' b → Same H H' → Q (.ref b) H'
def sp_l_take : Sp := fun vs H Q _ => ∃ (a : Addr) (n : Int), vs = [.ref a, .int n] ∧ BagB H a ∧ 0 < n ∧ n < 1073741824 ∧
  ∀ (r : Int) (H' : Hp), 0 ≤ r → r < n → BagB H' a → (∀ b, b ≠ a → H' b = H b) → Q (.int r) H'
def sp_l_of : Sp := fun vs H Q _ => ∃ (a b : Addr) (xs : List V), vs = [.ref a, .ref b] ∧ BagB H a ∧ H b = some (.lst xs) ∧ 0 < xs.length ∧ xs.length < 1000 ∧ b ≠ a ∧
  ∀ (v : V) (H' : Hp), v ∈ xs → BagB H' a → (∀ c, c ≠ a → H' c = H c) → Q v H'
def sp_l_wide : Sp := fun vs H Q _ => ∃ (a : Addr) (n : Int), vs = [.ref a, .int n] ∧ BagB H a ∧ 0 < n ∧
  ∀ (r : Int) (H' : Hp), 0 ≤ r → r < n → BagB H' a → KeptB a H H' → Q (.int r) H'
/-- a drawn value -/
inductive DV : V → Prop
  | int (i : Int) : (if i < 0 then -i else i) < most → DV (.int i)
  | str (l : List Nat) : l.length ≤ 12 → (∀ c ∈ l, 32 ≤ c ∧ c ≤ 126) → DV (.str (S l))
theorem DV.val {v : V} (h : DV v) : IsVal v := by
  cases h with
  | int i hi => exact .int i hi
  | str l _ _ => exact .str l
def sp_l_value : Sp := fun vs H Q _ => ∃ a : Addr, vs = [.ref a] ∧ BagB H a ∧ ∀ (v : V) (H' : Hp), DV v → BagB H' a → KeptB a H H' → Q v H'
def sp_l_literal : Sp := fun vs H Q _ => ∃ (a : Addr) (n : Int), vs = [.ref a, .int n] ∧ BagB H a ∧ 0 ≤ n ∧ n < 100 ∧
  ∀ (l : List Nat) (H' : Hp), l.all litB = true → (l.length : Int) ≤ n → BagB H' a → KeptB a H H' → Q (.str (S l)) H'
def sp_l_labels : Sp := fun vs H Q _ => ∃ (a : Addr) (n : Nat), vs = [.ref a, .int (n : Int)] ∧ BagB H a ∧ n ≤ 26 ∧
  ∀ (p : Addr) (ls : List (List Nat)) (H' : Hp), H p = none → H' p = some (.lst (ls.map fun l => V.str (S l))) → ls.length = n → ls.Nodup → (∀ l ∈ ls, labelB l = true ∧ l.length ≤ 14) → BagB H' a → KeptB a H H' → Q (.ref p) H'
section
variable {P : Program} {w : World} {K : PySem.W.Frag} {mg : Str → Option Value} {base : Heap} {Z : Ad}
theorem atI_lt {ns : List Int} {i : Int} (h0 : 0 ≤ i) (h1 : i < (ns.length : Int)) : ∃ z, atI (ns.map V.int) i = some (V.int z) := by
  obtain ⟨j, rfl⟩ := Int.eq_ofNat_of_zero_le h0
  have hj : j < ns.length := by omega
  refine ⟨ns[j], atI_nat ?_⟩
  rw [List.getElem?_map, List.getElem?_eq_getElem hj]
  rfl
theorem cut_ints (ns : List Int) : ∃ ms : List Int, cutV (ns.map V.int) none (some 60) = ms.map V.int ∧ ms.length ≤ ns.length := by
  unfold cutV
  refine ⟨(ns.drop _).take _, by rw [← List.map_drop, ← List.map_take, List.length_map], ?_⟩
  rw [List.length_take, List.length_drop]
  omega
theorem ok_l_bag (T : Txt K mg Z) : FnOk P w K mg base CX0 1 Z.a_l_bag Z.d_l_bag ["_law_script", "_law_at"] (sp_l_bag K) := by
  refine T.F_l_bag.ok sc_l_bag (fun vs H Q E h => ?_) (fun cdv A outer s H vs Q E hr h => ?_)
  · obtain ⟨a, ns, i, rfl, _⟩ := h
    rfl
  · obtain ⟨a, ns, i, rfl, hS, hnl, h0, h1, q⟩ := h
    have nd := sc_l_bag.nd
    refine ⟨_, (C8.pss_cut (ps_set (i := 2) nd rfl (Or.inl rfl) (pe_ifExp (pt_cmpR op_lt (pv 1) (pe_callB Eg.cr_len (by rfl) T.u_len (by decide +kernel) (pa_cons (pv 0) pa_nil)) (nomark _)) (pe_ix ix_list (pv 0) (pv 1) (fun _ _ => rfl)) pe_int))
  (pss_cons (ps_set (i := 3) nd rfl (Or.inl rfl) (pe_op op_add (pe_op op_mul pe_int (pv 1)) pe_int))
  (pss_cons (ps_for PassesOwn.never rfl (pi_enum (by rfl) T.u_enumerate (pa_cons (pe_slice sl_list (pv 0) po_none (po_some pe_int)) pa_nil)) (pg_tup (by rfl) (pgs_cons (pg_name (i := 4) nd rfl (Or.inl rfl)) (pgs_cons (pg_name (i := 5) nd rfl (Or.inl rfl)) pgs_nil)))
  (pss_one (ps_set (i := 3) nd rfl (Or.inl rfl) (pe_op op_mod (pe_callTy Eg.cr_int (by rfl) T.u_int (by decide +kernel) (pa_cons (pe_op op_add (pe_op op_add (pe_op op_mul (pv 3) pe_int) (pe_op op_mod (pe_callTy Eg.cr_int (by rfl) T.u_int (by decide +kernel) (pa_cons (pv 5) pa_nil)) pe_int)) (pe_op op_mul pe_int (pv 4))) pa_nil)) pe_int))))
  (pss_one (ps_ret (pe_lst (pa_cons (pe_ifExp (pt_cmpR op_ge (pe_callB Eg.cr_abs (by rfl) T.u_abs (by decide +kernel) (pa_cons (pv 2) pa_nil)) (pe_op op_pow pe_int pe_int) (nomark _)) (pe_callB Eg.cr_abs (by rfl) T.u_abs (by decide +kernel) (pa_cons (pv 2) pa_nil)) pe_int) (pa_cons (pv 3) pa_nil)))))))), ?_⟩
    refine Eg.w_sig (σ := [some (.ref a), some (.int i), none, none, none, none]) rfl ?_
    refine ⟨fun σ' H' => ∃ z : Int, σ' = [some (.ref a), some (.int i), some (.int z), none, none, none] ∧ H = H', ?_, ?_⟩
    · walk_at "go"
      refine Eg.brD (fun h => ?_) (fun h => ?_)
      · obtain ⟨z, hz⟩ := atI_lt h0 (by simpa using h)
        walk_at "go"
        exact ⟨z, rfl, rfl⟩
      · walk_at "go"
        exact ⟨0, rfl, rfl⟩
    rintro _ _ ⟨z, rfl, rfl⟩
    walk_at "go"
    refine Tl.w_iE ?_
    walk_at "go"
    refine ⟨a, ns.map V.int, rfl, hS, fun p hp => ?_⟩
    obtain ⟨ms, em, ml⟩ := cut_ints ns
    rw [em]
    have h1p : upd H p (.lst (ms.map V.int)) p = some (.lst (ms.map V.int)) := upd_same
    have s1 : Same H (upd H p (.lst (ms.map V.int))) := fun c o e => Eg.upd_old e hp
    generalize upd H p (.lst (ms.map V.int)) = H1 at h1p s1 ⊢
    walk_at "go"
    refine Tl.c_iE (SqL.of h1p) ?_
    refine for_it (walk_enum (xs := ms.map V.int)) (fun j σ' H' => ∃ (m : Int) (v4 v5 : Option V), σ' = [some (.ref a), some (.int i), some (.int z), some (.int m), v4, v5] ∧ 0 ≤ m ∧ m < 2147483648 ∧ Same H1 H') ⟨7919 * i + 4241, none, none, rfl, by omega, by omega, Same.refl _⟩ ?_ ?_ ?_
    · rintro j _ H2 _ ⟨m, v4, v5, rfl, _, _, s2⟩
      exact SqL.of (s2 _ _ h1p)
    · rintro j x _ H2 _ hj ⟨m, v4, v5, rfl, m0, m1, s2⟩ ⟨tt, y, e, rfl, htt, rfl, hy, he⟩
      cases hy
      have he : (ms.map V.int)[j]? = some e := he
      rw [List.getElem?_map] at he
      obtain ⟨n, hn, rfl⟩ := Option.map_eq_some_iff.mp he
      have h3t : upd H2 tt (.tup [.int (j : Nat), .int n]) tt = some (.tup [.int (j : Nat), .int n]) := upd_same
      have s3 : Same H1 (upd H2 tt (.tup [.int (j : Nat), .int n])) := fun c o e => Eg.upd_old (s2 c o e) htt
      generalize upd H2 tt (.tup [.int (j : Nat), .int n]) = H3 at h3t s3 ⊢
      walk_at "go"
      exact ⟨_, _, _, rfl, by omega, by omega, s3⟩
    rintro _ H2 ⟨m, v4, v5, rfl, m0, m1, s2⟩
    walk_at "go"
    refine Eg.brD (fun h => ?_) (fun h => ?_)
    · walk_at "go"
      intro b hb
      walk_at "go"
      exact q b _ ((s1.trans s2).free hb) ⟨_, m, upd_same, by split <;> omega, m0, m1⟩ fun c o e => Eg.upd_old ((s1.trans s2) c o e) hb
    · walk_at "go"
      intro b hb
      walk_at "go"
      exact q b _ ((s1.trans s2).free hb) ⟨0, m, upd_same, by decide, m0, m1⟩ fun c o e => Eg.upd_old ((s1.trans s2) c o e) hb
theorem ok_l_take (T : Txt K mg Z) : FnOk P w K mg base CX0 1 Z.a_l_take Z.d_l_take ["_law_bag_here", "_law_many"] sp_l_take := by
  refine T.F_l_take.ok sc_l_take (fun vs H Q E h => ?_) (fun cdv A outer s H vs Q E hr h => ?_)
  · obtain ⟨a, n, rfl, _⟩ := h
    rfl
  · obtain ⟨a, n, rfl, ⟨d, m, ha, hd, hm, hm2⟩, hn, hn2, q⟩ := h
    have nd := sc_l_take.nd
    refine ⟨_, (pss_cons (ps_if (pt_cmpR op_gt (pe_ix ix_list (pv 0) pe_int (fun _ _ => rfl)) pe_int (nomark _))
  (pss_cons (ps_set (i := 2) nd rfl (Or.inl rfl) (pe_op op_mod (pe_callTy Eg.cr_int (by rfl) T.u_int (by decide +kernel) (pa_cons (pe_ix ix_list (pv 0) pe_int (fun _ _ => rfl)) pa_nil)) (pv 1)))
  (pss_cons (ps_asg (pe_op op_fdiv (pe_ix ix_list (pv 0) pe_int (fun _ _ => rfl)) (pv 1)) (pg_sub (pv 0) pe_int set_list))
  (pss_one (ps_ret (pv 2)))))
  pss_nil)
  (pss_cons (ps_asg (pe_op op_mod (pe_callTy Eg.cr_int (by rfl) T.u_int (by decide +kernel) (pa_cons (pe_op op_add (pe_op op_mul (pe_ix ix_list (pv 0) pe_int (fun _ _ => rfl)) pe_int) pe_int) pa_nil)) pe_int) (pg_sub (pv 0) pe_int set_list))
  (pss_one (ps_ret (pe_op op_mod (pe_op op_fdiv (pe_op op_mod (pe_callTy Eg.cr_int (by rfl) T.u_int (by decide +kernel) (pa_cons (pe_op op_mul (pe_op op_fdiv (pe_ix ix_list (pv 0) pe_int (fun _ _ => rfl)) pe_int) pe_int) pa_nil)) pe_int) pe_int) (pv 1)))))), ?_⟩
    refine Eg.w_sig (σ := [some (.ref a), some (.int n), none]) rfl ?_
    walk_at "go"
    refine Eg.brD (fun h => ?_) (fun h => ?_)
    · walk_at "go"
      refine q _ _ (Int.emod_nonneg _ (by omega)) (Int.emod_lt_of_pos _ hn) ⟨_, m, upd_same, Int.ediv_nonneg hd (by omega), hm, hm2⟩ fun b hb => ?_
      rw [upd_ne hb]
    · walk_at "go"
      refine q _ _ (Int.emod_nonneg _ (by omega)) (Int.emod_lt_of_pos _ hn) ⟨d, _, upd_same, hd, by omega, by omega⟩ fun b hb => ?_
      rw [upd_ne hb]
theorem ok_l_of (T : Txt K mg Z) : FnOk P w K mg base CX0 2 Z.a_l_of Z.d_l_of ["_law_bag_here", "_law_some"] sp_l_of := by
  refine T.F_l_of.ok sc_l_of (fun vs H Q E h => ?_) (fun cdv A outer s H vs Q E hr h => ?_)
  · obtain ⟨a, b, xs, rfl, _⟩ := h
    rfl
  · obtain ⟨a, b, xs, rfl, hb, hs, h0, h1, hne, q⟩ := h
    refine ⟨_, (pss_one (ps_ret (pe_ix ix_list (pv 1) (pe_call (ok_l_take T) (hr.mono (by decide)) (by rfl) T.g_l_take T.F_l_take.kp T.b_l_take .nil pass0 (pa_cons (pv 0) (pa_cons (pe_callB Eg.cr_len (by rfl) T.u_len (by decide +kernel) (pa_cons (pv 1) pa_nil)) pa_nil))) (fun _ _ => rfl)))), ?_⟩
    refine Eg.w_sig (σ := [some (.ref a), some (.ref b)]) rfl ?_
    walk_at "go"
    refine ⟨a, _, rfl, hb, by omega, by omega, fun r H' r0 r1 hb' fr => ?_⟩
    obtain ⟨j, rfl⟩ := Int.eq_ofNat_of_zero_le r0
    have hj : j < xs.length := by omega
    have hv : atI xs (j : Int) = some xs[j] := atI_nat (List.getElem?_eq_getElem hj)
    have hs' : H' b = some (.lst xs) := (fr b hne).trans hs
    walk_at "go"
    exact q _ H' (List.getElem_mem hj) hb' fr
theorem ok_l_wide (T : Txt K mg Z) : FnOk P w K mg base CX0 2 Z.a_l_wide Z.d_l_wide ["_law_bag_here", "_law_many"] sp_l_wide := by
  refine T.F_l_wide.ok sc_l_wide (fun vs H Q E h => ?_) (fun cdv A outer s H vs Q E hr h => ?_)
  · obtain ⟨a, n, rfl, _⟩ := h
    rfl
  · obtain ⟨a, n, rfl, hb, hn, q⟩ := h
    have nd := sc_l_wide.nd
    refine ⟨_, (pss_cons (ps_set (i := 2) nd rfl (Or.inl rfl) pe_int)
  (pss_cons (ps_for PassesOwn.never rfl (pi_range1 (by rfl) T.u_range (pa_cons pe_int pa_nil)) (pg_name (i := 3) nd rfl (Or.inl rfl))
  (pss_one (ps_set (i := 2) nd rfl (Or.inl rfl) (pe_op op_add (pe_op op_mul (pv 2) pe_int) (pe_call (ok_l_take T) (hr.mono (by decide)) (by rfl) T.g_l_take T.F_l_take.kp T.b_l_take .nil pass0 (pa_cons (pv 0) (pa_cons pe_int pa_nil)))))))
  (pss_one (ps_ret (pe_op op_mod (pe_callTy Eg.cr_int (by rfl) T.u_int (by decide +kernel) (pa_cons (pv 2) pa_nil)) (pv 1)))))), ?_⟩
    refine Eg.w_sig (σ := [some (.ref a), some (.int n), none, none]) rfl ?_
    walk_at "go"
    refine for_range (lo := 0) (fun i σ' H' => ∃ (f : Int) (v3 : Option V), σ' = [some (.ref a), some (.int n), some (.int f), v3] ∧ BagB H' a ∧ KeptB a H H') ⟨0, none, rfl, hb, fun c o e _ => e⟩ ?_ ?_
    · rintro i _ H1 hi ⟨f, v3, rfl, hb1, k1⟩
      walk_at "go"
      refine ⟨a, _, rfl, hb1, by decide, by decide, fun r H2 r0 r1 hb2 f2 => ?_⟩
      walk_at "go"
      exact ⟨_, _, rfl, hb2, k1.trans (.fr f2)⟩
    · rintro _ H1 ⟨f, v3, rfl, hb1, k1⟩
      walk_at "go"
      exact q _ H1 (Int.emod_nonneg _ (by omega)) (Int.emod_lt_of_pos _ hn) hb1 k1
def valL : List (List Nat) := [[97], [49], [48], [123, 125], [123, 97, 125], [32], [120], [63]]
theorem valL_eq : ([.str "a", .str "1", .str "0", .str "{}", .str "{a}", .str " ", .str "x", .str "?"] : List V) = valL.map fun l => V.str (S l) := by decide +kernel
theorem valL_ok : ∀ l ∈ valL, l.length ≤ 3 ∧ ∀ c ∈ l, 32 ≤ c ∧ c ≤ 126 := by decide
theorem ok_l_value (T : Txt K mg Z) : FnOk P w K mg base CX0 3 Z.a_l_value Z.d_l_value ["_law_bag_here"] sp_l_value := by
  refine T.F_l_value.ok sc_l_value (fun vs H Q E h => ?_) (fun cdv A outer s H vs Q E hr h => ?_)
  · obtain ⟨a, rfl, _⟩ := h
    rfl
  · obtain ⟨a, rfl, hb, q⟩ := h
    have nd := sc_l_value.nd
    refine ⟨_, (pss_cons (ps_set (i := 1) nd rfl (Or.inl rfl) (pe_call (ok_l_take T) (hr.mono (by decide)) (by rfl) T.g_l_take T.F_l_take.kp T.b_l_take .nil pass0 (pa_cons (pv 0) (pa_cons pe_int pa_nil))))
  (pss_cons (ps_if (pt_cmpR op_eq (pv 1) pe_int (nomark _))
  (pss_one (ps_ret (pe_op op_sub (pe_call (ok_l_take T) (hr.mono (by decide)) (by rfl) T.g_l_take T.F_l_take.kp T.b_l_take .nil pass0 (pa_cons (pv 0) (pa_cons pe_int pa_nil))) pe_int)))
  pss_nil)
  (pss_cons (ps_if (pt_cmpR op_eq (pv 1) pe_int (nomark _))
  (pss_one (ps_ret (pe_op op_mul (pe_call (ok_l_wide T) (hr.mono (by decide)) (by rfl) T.g_l_wide T.F_l_wide.kp T.b_l_wide .nil pass0 (pa_cons (pv 0) (pa_cons (pe_op op_pow pe_int pe_int) pa_nil))) (pe_call (ok_l_of T) (hr.mono (by decide)) (by rfl) T.g_l_of T.F_l_of.kp T.b_l_of .nil pass0 (pa_cons (pv 0) (pa_cons (pe_lst (pa_cons pe_int (pa_cons (pe_un un_neg pe_int) pa_nil))) pa_nil))))))
  pss_nil)
  (pss_cons (ps_set (i := 2) nd rfl (Or.inl rfl) pe_str)
  (pss_cons (ps_for PassesOwn.never rfl (pi_range1 (by rfl) T.u_range (pa_cons (pe_call (ok_l_take T) (hr.mono (by decide)) (by rfl) T.g_l_take T.F_l_take.kp T.b_l_take .nil pass0 (pa_cons (pv 0) (pa_cons pe_int pa_nil))) pa_nil)) (pg_name (i := 3) nd rfl (Or.inl rfl))
  (pss_one (ps_set (i := 2) nd rfl (Or.inl rfl) (pe_op Es.op_addS (pv 2) (pe_call (ok_l_of T) (hr.mono (by decide)) (by rfl) T.g_l_of T.F_l_of.kp T.b_l_of .nil pass0 (pa_cons (pv 0) (pa_cons (pe_lst (pa_cons pe_str (pa_cons pe_str (pa_cons pe_str (pa_cons pe_str (pa_cons pe_str (pa_cons pe_str (pa_cons pe_str (pa_cons pe_str pa_nil))))))))) pa_nil)))))))
  (pss_one (ps_ret (pv 2)))))))), ?_⟩
    refine Eg.w_sig (σ := [some (.ref a), none, none, none]) rfl ?_
    walk_at "go"
    refine ⟨a, _, rfl, hb, by decide, by decide, fun r H1 r0 r1 hb1 f1 => ?_⟩
    have k1 : KeptB a H H1 := .fr f1
    walk_at "go"
    rw [Eg.int_eq]
    refine Eg.brD (fun e => ?_) (fun e => ?_)
    · walk_at "go"
      refine ⟨a, _, rfl, hb1, by decide, by decide, fun r2 H2 r20 r21 hb2 f2 => ?_⟩
      walk_at "go"
      exact q _ H2 (.int _ (by unfold most; split <;> omega)) hb2 (k1.trans (.fr f2))
    walk_at "go"
    rw [Eg.int_eq]
    refine Eg.brD (fun e => ?_) (fun e => ?_)
    · walk_at "go"
      have e40 : (10 : Int) ^ Int.toNat 40 = most := by decide +kernel
      refine ⟨a, _, rfl, hb1, by rw [e40]; decide +kernel, fun r2 H2 r20 r21 hb2 k2' => ?_⟩
      rw [e40] at r21
      have k2 := k1.trans k2'
      walk_at "go"
      intro o ho
      obtain ⟨bs, eb⟩ := hb2.ob
      have hoa : o ≠ a := (ne_of_none eb ho).symm
      have s3 : Same H2 (upd H2 o (.lst [V.int 1, V.int (-1)])) := fun c o' e => Eg.upd_old e ho
      have h3 : upd H2 o (.lst [V.int 1, V.int (-1)]) o = some (.lst [V.int 1, V.int (-1)]) := upd_same
      generalize upd H2 o (.lst [V.int 1, V.int (-1)]) = H3 at s3 h3 ⊢
      walk_at "go"
      refine ⟨a, o, _, rfl, hb2.keep s3, h3, (show 0 < 2 by decide), (show 2 < 1000 by decide), hoa, fun v H4 hv hb4 f4 => ?_⟩
      have k4 := (k2.trans (.of s3)).trans (.fr f4)
      obtain ⟨z, rfl, hz⟩ : ∃ z : Int, v = .int z ∧ (z = 1 ∨ z = -1) := by
        rcases List.mem_cons.mp hv with rfl | hv
        · exact ⟨1, rfl, .inl rfl⟩
        · rcases List.mem_cons.mp hv with rfl | hv
          · exact ⟨-1, rfl, .inr rfl⟩
          · cases hv
      have cm : CMul r2 z := .inr (by rcases hz with rfl | rfl <;> decide)
      walk_at "go"
      refine q _ H4 (.int _ ?_) hb4 k4
      rcases hz with rfl | rfl
      · rw [Int.mul_one]
        split <;> omega
      · rw [show r2 * -1 = -r2 by omega]
        split <;> omega
    walk_at "go"
    refine ⟨a, _, rfl, hb1, by decide, by decide, fun r2 H2 r20 r21 hb2 f2 => ?_⟩
    have k2 := k1.trans (.fr f2)
    walk_at "go"
    have emp : ("" : Str) = S [] := by decide +kernel
    rw [emp]
    refine for_range (lo := 0) (fun i σ' H' => ∃ (l : List Nat) (v3 : Option V), σ' = [some (.ref a), some (.int r), some (.str (S l)), v3] ∧ l.length ≤ 3 * i ∧ (∀ c ∈ l, 32 ≤ c ∧ c ≤ 126) ∧ BagB H' a ∧ KeptB a H H') ⟨[], none, rfl, Nat.zero_le _, (fun _ z => nomatch z), hb2, k2⟩ ?_ ?_
    · rintro i _ H3 hi ⟨l, v3, rfl, ll, lc, hb3, k3⟩
      have i4 : i < 4 := by omega
      walk_at "go"
      intro o ho
      obtain ⟨bs, eb⟩ := hb3.ob
      have hoa : o ≠ a := (ne_of_none eb ho).symm
      rw [valL_eq]
      have s4 : Same H3 (upd H3 o (.lst (valL.map fun l => V.str (S l)))) := fun c o' e => Eg.upd_old e ho
      have h4 : upd H3 o (.lst (valL.map fun l => V.str (S l))) o = some (.lst (valL.map fun l => V.str (S l))) := upd_same
      generalize upd H3 o (.lst (valL.map fun l => V.str (S l))) = H4 at s4 h4 ⊢
      walk_at "go"
      refine ⟨a, o, _, rfl, hb3.keep s4, h4, (show 0 < 8 by decide), (show 8 < 1000 by decide), hoa, fun v H5 hv hb5 f5 => ?_⟩
      obtain ⟨m, hm, rfl⟩ := List.mem_map.mp hv
      obtain ⟨ml, mc⟩ := valL_ok m hm
      walk_at "go"
      refine ⟨_, _, rfl, by rw [List.length_append]; omega, fun c hc => ?_, hb5, (k3.trans (.of s4)).trans (.fr f5)⟩
      rcases List.mem_append.mp hc with hc | hc
      · exact lc c hc
      · exact mc c hc
    · rintro _ H3 ⟨l, v3, rfl, ll, lc, hb3, k3⟩
      walk_at "go"
      exact q _ H3 (.str l (by omega) lc) hb3 k3
def signL : List Nat := [32, 33, 35, 36, 38, 39, 40, 41, 42, 43, 44, 45, 46, 47, 48, 49, 50, 51, 52, 53, 54, 55, 56, 57, 58, 59, 60, 61, 62, 63, 64, 91, 93, 94, 95, 124, 126, 65, 66, 67, 68, 69, 70, 71, 72, 73, 74, 75, 76, 77, 78, 79, 80, 81, 82, 83, 84, 85, 86, 87, 88, 89, 90, 97, 98, 99, 100, 101, 102, 103, 104, 105, 106, 107, 108, 109, 110, 111, 112, 113, 114, 115, 116, 117, 118, 119, 120, 121, 122]
theorem signL_eq : (" !#$&'()*+,-./0123456789:;<=>?\x40[]^_|~ABCDEFGHIJKLMNOPQRSTUVWXYZabcdefghijklmnopqrstuvwxyz" : Str) = S signL := by decide +kernel
def signA : List Nat := signL ++ [92, 34, 96]
theorem signA_ok : ∀ c ∈ signA, litB c = true := by decide
theorem sign3 : ([.str "\\", .str "\"", .str "`"] : List V) = ([92, 34, 96] : List Nat).map fun c => V.str (S [c]) := by decide +kernel
theorem ok_l_literal (T : Txt K mg Z) : FnOk P w K mg base CX0 3 Z.a_l_literal Z.d_l_literal ["_law_bag_here", "_law_limit"] sp_l_literal := by
  refine T.F_l_literal.ok sc_l_literal (fun vs H Q E h => ?_) (fun cdv A outer s H vs Q E hr h => ?_)
  · obtain ⟨a, n, rfl, _⟩ := h
    rfl
  · obtain ⟨a, n, rfl, hb, hn, hn2, q⟩ := h
    have nd := sc_l_literal.nd
    refine ⟨_, (pss_cons (ps_set (i := 2) nd rfl (Or.inl rfl) (pe_callTy (Tw.cr_listS rfl) (by rfl) T.u_list (by decide +kernel) (pa_cons pe_str pa_nil)))
  (pss_cons (ps_set (i := 2) nd rfl (Or.inl rfl) (pe_op op_cat (pv 2) (pe_lst (pa_cons pe_str (pa_cons pe_str (pa_cons pe_str pa_nil))))))
  (pss_cons (ps_set (i := 3) nd rfl (Or.inl rfl) pe_str)
  (pss_cons (ps_for PassesOwn.never rfl (pi_range1 (by rfl) T.u_range (pa_cons (pe_call (ok_l_take T) (hr.mono (by decide)) (by rfl) T.g_l_take T.F_l_take.kp T.b_l_take .nil pass0 (pa_cons (pv 0) (pa_cons (pe_op op_add (pv 1) pe_int) pa_nil))) pa_nil)) (pg_name (i := 4) nd rfl (Or.inl rfl))
  (pss_one (ps_set (i := 3) nd rfl (Or.inl rfl) (pe_op Es.op_addS (pv 3) (pe_call (ok_l_of T) (hr.mono (by decide)) (by rfl) T.g_l_of T.F_l_of.kp T.b_l_of .nil pass0 (pa_cons (pv 0) (pa_cons (pv 2) pa_nil)))))))
  (pss_one (ps_ret (pv 3))))))), ?_⟩
    refine Eg.w_sig (σ := [some (.ref a), some (.int n), none, none, none]) rfl ?_
    obtain ⟨bs, eb⟩ := hb.ob
    walk_at "go"
    refine ⟨signL, by rw [signL_eq], by decide, fun p hp => ?_⟩
    have s1 : Same H (upd H p (.lst (signL.map fun c => V.str (S [c])))) := fun c o' e => Eg.upd_old e hp
    have h1 : upd H p (.lst (signL.map fun c => V.str (S [c]))) p = some (.lst (signL.map fun c => V.str (S [c]))) := upd_same
    generalize upd H p (.lst (signL.map fun c => V.str (S [c]))) = H1 at s1 h1 ⊢
    walk_at "go"
    intro o ho
    rw [sign3]
    have s2 : Same H1 (upd H1 o (.lst (([92, 34, 96] : List Nat).map fun c => V.str (S [c])))) := fun c o' e => Eg.upd_old e ho
    have h2 : upd H1 o (.lst (([92, 34, 96] : List Nat).map fun c => V.str (S [c]))) o = some (.lst (([92, 34, 96] : List Nat).map fun c => V.str (S [c]))) := upd_same
    generalize upd H1 o (.lst (([92, 34, 96] : List Nat).map fun c => V.str (S [c]))) = H2 at s2 h2 ⊢
    walk_at "go"
    refine Eg.c_cat (s2 _ _ h1) h2 (by rw [List.length_map, List.length_map]; decide) fun L hL => ?_
    rw [← List.map_append]
    have h3 : upd H2 L (.lst (signA.map fun c => V.str (S [c]))) L = some (.lst (signA.map fun c => V.str (S [c]))) := upd_same
    have s3 : Same H (upd H2 L (.lst (signA.map fun c => V.str (S [c])))) := fun c o' e => Eg.upd_old (s2 _ _ (s1 _ _ e)) hL
    have hLa : L ≠ a := (ne_of_none (s2 _ _ (s1 _ _ eb)) hL).symm
    rw [show signL ++ [92, 34, 96] = signA from rfl]
    generalize upd H2 L (.lst (signA.map fun c => V.str (S [c]))) = H3 at h3 s3 ⊢
    walk_at "go"
    refine ⟨a, _, rfl, hb.keep s3, by omega, by omega, fun r H4 r0 r1 hb4 f4 => ?_⟩
    have k4 : KeptB a H H4 := (KeptB.of s3).trans (.fr f4)
    have h4 := (f4 L hLa).trans h3
    walk_at "go"
    rw [show ("" : Str) = S [] by decide +kernel]
    refine for_range (lo := 0) (fun i σ' H' => ∃ (l : List Nat) (v4 : Option V), σ' = [some (.ref a), some (.int n), some (.ref L), some (.str (S l)), v4] ∧ l.length = i ∧ l.all litB = true ∧ H' L = some (.lst (signA.map fun c => V.str (S [c]))) ∧ BagB H' a ∧ KeptB a H H') ⟨[], none, rfl, rfl, rfl, h4, hb4, k4⟩ ?_ ?_
    · rintro i _ H5 hi ⟨l, v4, rfl, ll, lc, h5, hb5, k5⟩
      have il : i < 100 := by omega
      walk_at "go"
      refine ⟨a, L, _, rfl, hb5, h5, by rw [List.length_map]; decide, by rw [List.length_map]; decide, hLa, fun v H6 hv hb6 f6 => ?_⟩
      obtain ⟨c, hc, rfl⟩ := List.mem_map.mp hv
      walk_at "go"
      refine ⟨_, _, rfl, by rw [List.length_append, ll]; rfl, ?_, (f6 L hLa).trans h5, hb6, k5.trans (.fr f6)⟩
      rw [List.all_append, lc, List.all_cons, signA_ok c hc]
      rfl
    · rintro _ H5 ⟨l, v4, rfl, ll, lc, h5, hb5, k5⟩
      walk_at "go"
      exact q l H5 lc (by omega) hb5 k5
/-! labels -/
theorem map_erase {α β : Type} (f : α → β) : ∀ (l : List α) (j : Nat), (l.map f).eraseIdx j = (l.eraseIdx j).map f
  | [], _ => rfl
  | _ :: _, 0 => rfl
  | x :: r, j + 1 => by
    show f x :: (r.map f).eraseIdx j = f x :: (r.eraseIdx j).map f
    rw [map_erase f r j]
def letL : List Nat := [97, 98, 99, 100, 101, 102, 103, 104, 105, 106, 107, 108, 109, 110, 111, 112, 113, 114, 115, 116, 117, 118, 119, 120, 121, 122]
theorem letL_eq : ("abcdefghijklmnopqrstuvwxyz" : Str) = S letL := by decide +kernel
theorem letL_low : ∀ c ∈ letL, low c = true := by decide
theorem letL_nd : letL.Nodup := by decide
theorem st4_eq : ([.str "a", .str "z", .str "p", .str "m"] : List V) = ([97, 122, 112, 109] : List Nat).map fun c => V.str (S [c]) := by decide +kernel
theorem st4_low : ∀ c ∈ ([97, 122, 112, 109] : List Nat), low c = true := by decide
def wordOf (ahead : Bool) (st : List Nat) (c : Nat) : List Nat := if ahead = true then [c] ++ st else st ++ [c]
theorem wordOf_len {b : Bool} {st : List Nat} {c : Nat} : (wordOf b st c).length = st.length + 1 := by
  unfold wordOf
  split
  · rw [List.length_append, Nat.add_comm]
    rfl
  · rw [List.length_append]
    rfl
theorem wordOf_low {b : Bool} {st : List Nat} {c : Nat} (h : st.all low = true) (hc : low c = true) : (wordOf b st c).all low = true := by
  unfold wordOf
  split <;> rw [List.all_append, h, List.all_cons, hc] <;> rfl
theorem wordOf_inj {b : Bool} {st : List Nat} {c d : Nat} (h : wordOf b st c = wordOf b st d) : c = d := by
  unfold wordOf at h
  split at h
  · exact (List.cons.inj h).1
  · have := List.append_cancel_left h
    exact (List.cons.inj this).1
theorem wordOf_word {b : Bool} {st : List Nat} {c : Nat} (h : st.all low = true) (hc : low c = true) (hl : st.length ≤ 7) : wordB (wordOf b st c) = true := by
  unfold wordB
  rw [wordOf_low h hc, wordOf_len, decide_eq_true (by omega), decide_eq_true (by omega)]
  rfl
theorem stem_word {w d : List Nat} (hw : w.all low = true) (hd : d.all dig = true) : stem (w ++ d) = w :=
  stem_of (fun c hc => low_nodig (List.all_eq_true.mp hw c (List.mem_of_getLast? hc))) hd
theorem nodup_of_map {α β : Type} {f : α → β} {l : List α} (h : (l.map f).Nodup) : l.Nodup := (List.pairwise_map.mp h).imp fun hab e => hab (by rw [e])
set_option maxHeartbeats 8000000 in
theorem ok_l_labels (T : Txt K mg Z) : FnOk P w K mg base CX0 3 Z.a_l_labels Z.d_l_labels ["_law_bag_here", "_law_many"] sp_l_labels := by
  refine T.F_l_labels.ok sc_l_labels (fun vs H Q E h => ?_) (fun cdv A outer s H vs Q E hr h => ?_)
  · obtain ⟨a, n, rfl, _⟩ := h
    rfl
  · obtain ⟨a, n, rfl, hb, hn, q⟩ := h
    have nd := sc_l_labels.nd
    refine ⟨_, (pss_cons (ps_par (i := 2) (j := 3) (by rfl) nd rfl rfl (by decide) rfl rfl (pa_cons (pe_callTy (Tw.cr_listS rfl) (by rfl) T.u_list (by decide +kernel) (pa_cons pe_str pa_nil)) (pa_cons (pe_lst pa_nil) pa_nil)) (by rfl))
  (pss_cons (ps_par (i := 4) (j := 5) (by rfl) nd rfl rfl (by decide) rfl rfl (pa_cons pe_str (pa_cons (pe_cmpR op_eq (pe_call (ok_l_take T) (hr.mono (by decide)) (by rfl) T.g_l_take T.F_l_take.kp T.b_l_take .nil pass0 (pa_cons (pv 0) (pa_cons pe_int pa_nil))) pe_int (nomark _)) pa_nil)) (by rfl))
  (pss_cons (ps_for PassesOwn.never rfl (pi_range1 (by rfl) T.u_range (pa_cons (pe_call (ok_l_take T) (hr.mono (by decide)) (by rfl) T.g_l_take T.F_l_take.kp T.b_l_take .nil pass0 (pa_cons (pv 0) (pa_cons pe_int pa_nil))) pa_nil)) (pg_name (i := 6) nd rfl (Or.inl rfl))
  (pss_one (ps_set (i := 4) nd rfl (Or.inl rfl) (pe_op Es.op_addS (pv 4) (pe_call (ok_l_of T) (hr.mono (by decide)) (by rfl) T.g_l_of T.F_l_of.kp T.b_l_of .nil pass0 (pa_cons (pv 0) (pa_cons (pe_lst (pa_cons pe_str (pa_cons pe_str (pa_cons pe_str (pa_cons pe_str pa_nil))))) pa_nil)))))))
  (pss_cons (ps_for PassesOwn.never rfl (pi_range1 (by rfl) T.u_range (pa_cons (pv 1) pa_nil)) (pg_name (i := 6) nd rfl (Or.inl rfl))
  (pss_cons (ps_set (i := 7) nd rfl (Or.inl rfl) (pe_bm PySem.F.plainAttrs_list PySem.F.slot_list_pop PySem.F.type_list_pop mt_popAt (pv 2) (pa_cons (pe_call (ok_l_take T) (hr.mono (by decide)) (by rfl) T.g_l_take T.F_l_take.kp T.b_l_take .nil pass0 (pa_cons (pv 0) (pa_cons (pe_callB Eg.cr_len (by rfl) T.u_len (by decide +kernel) (pa_cons (pv 2) pa_nil)) pa_nil))) pa_nil)))
  (C8.pss_cut (ps_set (i := 8) nd rfl (Or.inl rfl) (pe_ifExp (pt_val (pv 5)) (pe_op Es.op_addS (pv 7) (pv 4)) (pe_op Es.op_addS (pv 4) (pv 7))))
  (pss_cons (ps_set (i := 9) nd rfl (Or.inl rfl) (pe_ix ix_list (pe_lst (pa_cons pe_int (pa_cons pe_int (pa_cons pe_int (pa_cons pe_int (pa_cons pe_int (pa_cons (pe_call (ok_l_take T) (hr.mono (by decide)) (by rfl) T.g_l_take T.F_l_take.kp T.b_l_take .nil pass0 (pa_cons (pv 0) (pa_cons pe_int pa_nil))) pa_nil))))))) (pe_call (ok_l_take T) (hr.mono (by decide)) (by rfl) T.g_l_take T.F_l_take.kp T.b_l_take .nil pass0 (pa_cons (pv 0) (pa_cons pe_int pa_nil))) (fun _ _ => rfl)))
  (pss_one (ps_expr (pe_bm PySem.F.plainAttrs_list PySem.F.slot_list_append PySem.F.type_list_append mt_append (pv 3) (pa_cons (pe_ifExp (pt_cmpR op_eq (pe_call (ok_l_take T) (hr.mono (by decide)) (by rfl) T.g_l_take T.F_l_take.kp T.b_l_take .nil pass0 (pa_cons (pv 0) (pa_cons pe_int pa_nil))) pe_int (nomark _)) (pe_op Es.op_addS (pv 8) (pe_callTy Es.cr_strI (by rfl) T.u_str (by decide +kernel) (pa_cons (pv 9) pa_nil))) (pv 8)) pa_nil))))))))
  (pss_one (ps_ret (pv 3))))))), ?_⟩
    refine Eg.w_sig (σ := [some (.ref a), some (.int (n : Int)), none, none, none, none, none, none, none, none]) rfl ?_
    obtain ⟨bs, eb⟩ := hb.ob
    walk_at "go"
    refine ⟨letL, by rw [letL_eq], by decide, fun L hL => ?_⟩
    have hLa : L ≠ a := (ne_of_none eb hL).symm
    have s1 : Same H (upd H L (.lst (letL.map fun c => V.str (S [c])))) := fun c o' e => Eg.upd_old e hL
    have h1 : upd H L (.lst (letL.map fun c => V.str (S [c]))) L = some (.lst (letL.map fun c => V.str (S [c]))) := upd_same
    generalize upd H L (.lst (letL.map fun c => V.str (S [c]))) = H1 at s1 h1 ⊢
    walk_at "go"
    intro F hF
    have hFa : F ≠ a := (ne_of_none (s1 _ _ eb) hF).symm
    have hFL : F ≠ L := (ne_of_none h1 hF).symm
    have h0F : H F = none := s1.free hF
    have s2 : Same H (upd H1 F (.lst [])) := fun c o' e => Eg.upd_old (s1 _ _ e) hF
    have h2F : upd H1 F (.lst []) F = some (.lst []) := upd_same
    have h2L : upd H1 F (.lst []) L = some (.lst (letL.map fun c => V.str (S [c]))) := Eg.upd_mut hFL.symm h1
    generalize upd H1 F (.lst []) = H2 at s2 h2F h2L ⊢
    walk_at "go"
    refine ⟨a, _, rfl, hb.keep s2, by decide, by decide, fun r H3 r0 r1 hb3 f3 => ?_⟩
    have k3 : KeptB a H H3 := (KeptB.of s2).trans (.fr f3)
    have h3F := (f3 F hFa).trans h2F
    have h3L := (f3 L hLa).trans h2L
    walk_at "go"
    rw [show ("" : Str) = S [] by decide +kernel]
    generalize decide (V.int r = V.int 0) = ah
    refine ⟨a, _, rfl, hb3, by decide, by decide, fun r2 H4 r20 r21 hb4 f4 => ?_⟩
    have k4 := k3.trans (.fr f4)
    have h4F := (f4 F hFa).trans h3F
    have h4L := (f4 L hLa).trans h3L
    walk_at "go"
    refine for_range (lo := 0) (fun i σ' H' => ∃ (st : List Nat) (v6 : Option V), σ' = [some (.ref a), some (.int (n : Int)), some (.ref L), some (.ref F), some (.str (S st)), some (.bl ah), v6, none, none, none] ∧ st.length = i ∧ st.all low = true ∧ H' F = some (.lst []) ∧ H' L = some (.lst (letL.map fun c => V.str (S [c]))) ∧ BagB H' a ∧ KeptB a H H') ⟨[], none, rfl, rfl, rfl, h4F, h4L, hb4, k4⟩ ?_ ?_
    · rintro i _ H5 hi ⟨st, v6, rfl, sl, slow, h5F, h5L, hb5, k5⟩
      have i7 : i < 7 := by omega
      walk_at "go"
      intro o ho
      rw [st4_eq]
      obtain ⟨bs5, eb5⟩ := hb5.ob
      have hoa : o ≠ a := (ne_of_none eb5 ho).symm
      have s6 : Same H5 (upd H5 o (.lst (([97, 122, 112, 109] : List Nat).map fun c => V.str (S [c])))) := fun c o' e => Eg.upd_old e ho
      have h6 : upd H5 o (.lst (([97, 122, 112, 109] : List Nat).map fun c => V.str (S [c]))) o = some (.lst (([97, 122, 112, 109] : List Nat).map fun c => V.str (S [c]))) := upd_same
      generalize upd H5 o (.lst (([97, 122, 112, 109] : List Nat).map fun c => V.str (S [c]))) = H6 at s6 h6 ⊢
      walk_at "go"
      refine ⟨a, o, _, rfl, hb5.keep s6, h6, (show 0 < 4 by decide), (show 4 < 1000 by decide), hoa, fun v H7 hv hb7 f7 => ?_⟩
      obtain ⟨c, hc, rfl⟩ := List.mem_map.mp hv
      walk_at "go"
      refine ⟨_, _, rfl, by rw [List.length_append, sl]; rfl, ?_, (f7 F hFa).trans (s6 _ _ h5F), (f7 L hLa).trans (s6 _ _ h5L), hb7, (k5.trans (.of s6)).trans (.fr f7)⟩
      rw [List.all_append, slow, List.all_cons, st4_low c hc]
      rfl
    rintro _ H5 ⟨st, v6, rfl, sl, slow, h5F, h5L, hb5, k5⟩
    have sl7 : st.length ≤ 7 := by omega
    clear h4F h4L hb4 k4 h3F h3L hb3 k3 f4 f3 h2F h2L s2 h1 s1
    walk_at "go"
    refine for_range (lo := 0) (fun i σ' H' => ∃ (ss us : List Nat) (ls : List (List Nat)) (v6 v7 v8 v9 : Option V), σ' = [some (.ref a), some (.int (n : Int)), some (.ref L), some (.ref F), some (.str (S st)), some (.bl ah), v6, v7, v8, v9] ∧ H' L = some (.lst (ss.map fun c => V.str (S [c]))) ∧ H' F = some (.lst (ls.map fun l => V.str (S l))) ∧ (us ++ ss).Perm letL ∧ us.length = i ∧ ls.map stem = us.map (wordOf ah st) ∧ (∀ l ∈ ls, labelB l = true ∧ l.length ≤ 14) ∧ BagB H' a ∧ KeptB a H H') ⟨letL, [], [], v6, none, none, none, rfl, h5L, h5F, List.Perm.refl _, rfl, rfl, (fun _ z => nomatch z), hb5, k5⟩ ?_ ?_
    · rintro i _ H6 hi ⟨ss, us, ls, v6, v7, v8, v9, rfl, h6L, h6F, pm, ul, lst, lok, hb6, k6⟩
      have pl := pm.length_eq
      rw [List.length_append] at pl
      have l26 : letL.length = 26 := rfl
      have i26 : i < 26 := by omega
      have lsl : ls.length = us.length := by have := congrArg List.length lst; rw [List.length_map, List.length_map] at this; exact this
      walk_at "go"
      refine ⟨a, _, rfl, hb6, by rw [List.length_map]; omega, by rw [List.length_map]; omega, fun r3 H7 r30 r31 hb7 f7 => ?_⟩
      rw [List.length_map] at r31
      obtain ⟨j, rfl⟩ := Int.eq_ofNat_of_zero_le r30
      have hj : j < ss.length := by omega
      have h7L := (f7 L hLa).trans h6L
      have h7F := (f7 F hFa).trans h6F
      have k7 := k6.trans (.fr f7)
      have hcj : (ss.map fun c => V.str (S [c]))[j]? = some (.str (S [ss[j]])) := by rw [List.getElem?_map, List.getElem?_eq_getElem hj]; rfl
      walk_at "go"
      refine Eg.c_popAt h7L (by rw [List.length_map]; omega) rfl hcj ?_
      have h8F : upd H7 L (.lst ((ss.map fun c => V.str (S [c])).eraseIdx j)) F = some (.lst (ls.map fun l => V.str (S l))) := Eg.upd_mut hFL h7F
      have h8L : upd H7 L (.lst ((ss.map fun c => V.str (S [c])).eraseIdx j)) L = some (.lst ((ss.eraseIdx j).map fun c => V.str (S [c]))) := by rw [upd_same, map_erase]
      have h0L : H L = none := hL
      have k8 : KeptB a H (upd H7 L (.lst ((ss.map fun c => V.str (S [c])).eraseIdx j))) := fun c o e n => Eg.upd_mut (ne_of_none e h0L) (k7 c o e n)
      have hb8 : BagB (upd H7 L (.lst ((ss.map fun c => V.str (S [c])).eraseIdx j))) a := hb7.to (upd_ne hLa.symm)
      generalize upd H7 L (.lst ((ss.map fun c => V.str (S [c])).eraseIdx j)) = H8 at h8F h8L k8 hb8 ⊢
      have cm : ss[j] ∈ letL := pm.mem_iff.mp (List.mem_append_right _ (List.getElem_mem hj))
      have clow := letL_low _ cm
      have pm2 : ((us ++ [ss[j]]) ++ ss.eraseIdx j).Perm letL := by
        refine List.Perm.trans ?_ pm
        rw [List.append_assoc]
        exact (Sm.perm_erase (List.getElem?_eq_getElem hj)).append_left us
      generalize ss[j] = c at hcj cm clow pm2 ⊢
      clear h7L h7F k7 hb7 f7 hcj h6L h6F hb6 k6
      walk_at "go"
      refine ⟨fun σ' H' => σ' = [some (.ref a), some (.int (n : Int)), some (.ref L), some (.ref F), some (.str (S st)), some (.bl ah), some (.int (0 + (i : Int))), some (.str (S [c])), some (.str (S (wordOf ah st c))), v9] ∧ H8 = H', ?_, ?_⟩
      · unfold wordOf
        cases ah with
        | true =>
          walk_at "go"
          exact ⟨rfl, rfl⟩
        | false =>
          walk_at "go"
          exact ⟨rfl, rfl⟩
      rintro _ _ ⟨rfl, rfl⟩
      have hw := wordOf_word (b := ah) slow clow sl7
      have hwl : (wordOf ah st c).length ≤ 8 := by rw [wordOf_len]; omega
      have hwlow := wordOf_low (b := ah) slow clow
      generalize hW : wordOf ah st c = W at hw hwl hwlow ⊢
      walk_at "go"
      refine ⟨a, _, rfl, hb8, by decide, by decide, fun r4 H9 r40 r41 hb9 f9 => ?_⟩
      have k9 := k8.trans (.fr f9)
      have h9F := (f9 F hFa).trans h8F
      have h9L := (f9 L hLa).trans h8L
      walk_at "go"
      intro o ho
      obtain ⟨bs9, eb9⟩ := hb9.ob
      have hoa : o ≠ a := (ne_of_none eb9 ho).symm
      have s10 : Same H9 (upd H9 o (.lst [.int 0, .int 1, .int 2, .int 10, .int 999999, .int r4])) := fun c o' e => Eg.upd_old e ho
      have h10 : upd H9 o (.lst [.int 0, .int 1, .int 2, .int 10, .int 999999, .int r4]) o = some (.lst [.int 0, .int 1, .int 2, .int 10, .int 999999, .int r4]) := upd_same
      generalize upd H9 o (.lst [.int 0, .int 1, .int 2, .int 10, .int 999999, .int r4]) = H10 at s10 h10 ⊢
      walk_at "go"
      refine ⟨a, _, rfl, hb9.keep s10, by decide, by decide, fun r5 H11 r50 r51 hb11 f11 => ?_⟩
      have k11 := (k9.trans (.of s10)).trans (.fr f11)
      have h11F := (f11 F hFa).trans (s10 _ _ h9F)
      have h11L := (f11 L hLa).trans (s10 _ _ h9L)
      have h11o := (f11 o hoa).trans h10
      obtain ⟨num, hnum, hn0, hn1⟩ : ∃ num : Int, atI ([.int 0, .int 1, .int 2, .int 10, .int 999999, .int r4] : List V) r5 = some (.int num) ∧ 0 ≤ num ∧ num < 1000000 := by
        obtain ⟨j, rfl⟩ := Int.eq_ofNat_of_zero_le r50
        have : j = 0 ∨ j = 1 ∨ j = 2 ∨ j = 3 ∨ j = 4 ∨ j = 5 := by omega
        rcases this with rfl | rfl | rfl | rfl | rfl | rfl
        · exact ⟨0, atI_nat rfl, by decide, by decide⟩
        · exact ⟨1, atI_nat rfl, by decide, by decide⟩
        · exact ⟨2, atI_nat rfl, by decide, by decide⟩
        · exact ⟨10, atI_nat rfl, by decide, by decide⟩
        · exact ⟨999999, atI_nat rfl, by decide, by decide⟩
        · exact ⟨r4, atI_nat rfl, r40, r41⟩
      clear h9F h9L k9 s10 h10 hb9 f9 hb8 k8 h8F h8L
      walk_at "go"
      refine ⟨a, _, rfl, hb11, by decide, by decide, fun r6 H12 r60 r61 hb12 f12 => ?_⟩
      have k12 := k11.trans (.fr f12)
      have h12F := (f12 F hFa).trans h11F
      have h12L := (f12 L hLa).trans h11L
      obtain ⟨k, rfl⟩ := Int.eq_ofNat_of_zero_le hn0
      have hkl := TL.numL_len (n := k) (k := 6) (by decide) (show k < 10 ^ 6 by omega)
      have hkd : (TL.numL k).all dig = true := by
        have := count_num (n := k) (by omega)
        unfold countB at this
        rw [Bool.and_eq_true] at this
        exact this.2
      have stw : ∀ d : List Nat, d.all dig = true → (ls ++ [W ++ d]).map stem = (us ++ [c]).map (wordOf ah st) := fun d hd => by
        rw [List.map_append, List.map_append, lst, List.map_cons, List.map_cons, List.map_nil, List.map_nil, stem_word hwlow hd, hW]
      have lokw : ∀ d : List Nat, (d = [] ∨ countB d = true) → d.length ≤ 6 → ∀ l ∈ ls ++ [W ++ d], labelB l = true ∧ l.length ≤ 14 := fun d hd hl l hm => by
        rcases List.mem_append.mp hm with hm | hm
        · exact lok l hm
        · rw [List.mem_singleton.mp hm, List.length_append]
          exact ⟨label_of hw hd, by omega⟩
      walk_at "go"
      rw [Eg.int_eq]
      refine Eg.brD (fun e => ?_) (fun e => ?_)
      · walk_at "go"
        rw [num_S k]
        walk_at "go"
        refine ⟨_, us ++ [c], ls ++ [W ++ TL.numL k], _, _, _, _, rfl, Eg.upd_mut hFL.symm h12L, ?_, pm2, by rw [List.length_append, ul]; rfl, stw _ hkd, lokw _ (.inr (count_num (by omega))) hkl, hb12.to (upd_ne hFa.symm), fun c o e n => Eg.upd_mut (ne_of_none e h0F) (k12 c o e n)⟩
        rw [upd_same, List.map_append]
        rfl
      · walk_at "go"
        refine ⟨_, us ++ [c], ls ++ [W ++ []], _, _, _, _, rfl, Eg.upd_mut hFL.symm h12L, ?_, pm2, by rw [List.length_append, ul]; rfl, stw _ rfl, lokw _ (.inl rfl) (Nat.zero_le _), hb12.to (upd_ne hFa.symm), fun c o e n => Eg.upd_mut (ne_of_none e h0F) (k12 c o e n)⟩
        rw [upd_same, List.map_append, List.append_nil]
        rfl
    · rintro _ H6 ⟨ss, us, ls, v6, v7, v8, v9, rfl, h6L, h6F, pm, ul, lst, lok, hb6, k6⟩
      have lsl : ls.length = us.length := by have := congrArg List.length lst; rw [List.length_map, List.length_map] at this; exact this
      have und : us.Nodup := (List.nodup_append.mp (pm.nodup_iff.mpr letL_nd)).1
      walk_at "go"
      refine q F ls H6 h0F h6F (by omega) (nodup_of_map (f := stem) ?_) lok hb6 k6
      rw [lst]
      exact List.pairwise_map.mpr (und.imp fun hab e => hab (wordOf_inj e))
end
end LW
end

section
local macro_rules | `(tactic| walk_at "tx") => `(tactic| first
  | with_reducible refine Pz.w_star ?_
  | ((with_reducible refine' Pz.c_starL ?hs ?_); (case hs => walk_at "hp"))
  | with_reducible refine Pz.w_mkR ?_
  | ((with_reducible refine' Pz.w_mkVar ?hs ?_); (case hs => exact rfl)))
namespace LW
open PySem L2 SX Tx Tl
/-! pieces: cells, templates, what is made of them -/
/-- a literal, or a hole with its label and its value -/
abbrev Pp := Sum (List Nat) (List Nat × V)
def pp : Pp → Pc
  | .inl l => .say l
  | .inr (k, v) => .oth "hole" [.str (S k), v]
def tmplP : Pp → List Nat
  | .inl l => l
  | .inr (k, _) => 123 :: (k ++ [125])
def tmpl (ps : List Pp) : List Nat := ps.flatMap tmplP
def putP (acc : List Pp) : Pp → List Pp
  | .inr x => acc ++ [.inr x]
  | .inl l => if l = [] then acc else match acc.getLast? with
    | some (.inl m) => acc.dropLast ++ [.inl (m ++ l)]
    | _ => acc ++ [.inl l]
def mergeP (ps : List Pp) : List Pp := ps.foldl putP []
theorem put_pp (acc : List Pp) (p : Pp) : put (acc.map pp) (pp p) = (putP acc p).map pp := by
  cases p with
  | inr x =>
    show acc.map pp ++ [_] = _
    unfold putP
    rw [List.map_append]
    rfl
  | inl l =>
    unfold putP
    show (if l = [] then acc.map pp else match (acc.map pp).getLast? with
      | some (.say m) => (acc.map pp).dropLast ++ [.say (m ++ l)]
      | _ => acc.map pp ++ [.say l]) = _
    by_cases hl : l = []
    · rw [if_pos hl]
      dsimp only
      rw [if_pos hl]
    · rw [if_neg hl]
      dsimp only
      rw [if_neg hl, List.getLast?_map]
      cases h : acc.getLast? with
      | none =>
        show acc.map pp ++ [.say l] = (acc ++ [(Sum.inl l : Pp)]).map pp
        rw [List.map_append]
        rfl
      | some q =>
        cases q with
        | inl m =>
          show (acc.map pp).dropLast ++ [.say (m ++ l)] = (acc.dropLast ++ [(Sum.inl (m ++ l) : Pp)]).map pp
          rw [List.map_append, List.map_dropLast]
          rfl
        | inr x =>
          show acc.map pp ++ [.say l] = (acc ++ [(Sum.inl l : Pp)]).map pp
          rw [List.map_append]
          rfl
theorem merge_pp (ps : List Pp) : merge (ps.map pp) = (mergeP ps).map pp := by
  unfold merge mergeP
  have : ∀ (qs acc : List Pp), (qs.map pp).foldl put (acc.map pp) = (qs.foldl putP acc).map pp := by
    intro qs
    induction qs with
    | nil => exact fun _ => rfl
    | cons q r ih =>
      intro acc
      rw [List.map_cons, List.foldl_cons, List.foldl_cons, put_pp, ih]
  exact this ps []
theorem pp_ok (p : Pp) : (pp p).ok := by
  cases p with
  | inl l => trivial
  | inr x => exact ⟨by decide +kernel, by show 1 ≤ 2; decide, by show 2 ≤ 5; decide⟩
theorem c_addO {H : Hp} {Q : VK} {l : List Nat} (h : l.length < 90000) (q : Q (.str (S (123 :: l))) H) : Es.rAddS (.str "{") (.str (S l)) H Q := by
  rw [show ("{" : Str) = S [123] by decide +kernel]
  exact Tw.c_addSS (by show 1 + l.length < _; omega) q
theorem c_addC {H : Hp} {Q : VK} {l : List Nat} (h : l.length < 90000) (q : Q (.str (S (l ++ [125]))) H) : Es.rAddS (.str (S l)) (.str "}") H Q := by
  rw [show ("}" : Str) = S [125] by decide +kernel]
  exact Tw.c_addSS (by show l.length + 1 < _; omega) q
def fldsM (ca : Addr) (lv : Str) : List (Str × V) := [("cells", .ref ca), ("level", .str lv)]
def fldsP (ca : Addr) (lv t : Str) : List (Str × V) := [("cells", .ref ca), ("level", .str lv), ("text", .str t)]
def CellsAt (H : Hp) (ca : Addr) (ps : List Pp) : Prop := ∃ ys, H ca = some (.lst ys) ∧ PcsAt H ys (ps.map pp)
def MadeAt (C : Addr) (H : Hp) (a : Addr) (ps : List Pp) (lv : Str) : Prop := ∃ dx ca, H a = some (.ins C dx (fldsM ca lv)) ∧ CellsAt H ca ps
def PieceAt (C : Addr) (H : Hp) (a : Addr) (ps : List Pp) (lv : Str) : Prop := ∃ dx ca, H a = some (.ins C dx (fldsP ca lv (S (tmpl ps)))) ∧ CellsAt H ca ps
/-- a piece whose cells are new -/
def PieceN (C : Addr) (H H' : Hp) (a : Addr) (ps : List Pp) (lv : Str) : Prop := ∃ dx ca, H ca = none ∧ H' a = some (.ins C dx (fldsP ca lv (S (tmpl ps)))) ∧ CellsAt H' ca ps
theorem PieceN.at_ {C : Addr} {H H' : Hp} {a : Addr} {ps : List Pp} {lv : Str} (h : PieceN C H H' a ps lv) : PieceAt C H' a ps lv := let ⟨dx, ca, _, h1, h2⟩ := h; ⟨dx, ca, h1, h2⟩
theorem PieceN.back {C : Addr} {H H1 H' : Hp} {a : Addr} {ps : List Pp} {lv : Str} (h : PieceN C H1 H' a ps lv) (s : Same H H1) : PieceN C H H' a ps lv := let ⟨dx, ca, h0, h1, h2⟩ := h; ⟨dx, ca, s.free h0, h1, h2⟩
theorem CellsAt.keep {H H' : Hp} {ca : Addr} {ps : List Pp} (h : CellsAt H ca ps) (s : Same H H') : CellsAt H' ca ps := by
  obtain ⟨ys, h1, h2⟩ := h
  exact ⟨ys, s _ _ h1, h2.same fun b ys e => s _ _ e⟩
theorem MadeAt.keep {C : Addr} {H H' : Hp} {a : Addr} {ps : List Pp} {lv : Str} (h : MadeAt C H a ps lv) (s : Same H H') : MadeAt C H' a ps lv := by
  obtain ⟨dx, ca, h1, h2⟩ := h
  exact ⟨dx, ca, s _ _ h1, h2.keep s⟩
theorem PieceAt.keep {C : Addr} {H H' : Hp} {a : Addr} {ps : List Pp} {lv : Str} (h : PieceAt C H a ps lv) (s : Same H H') : PieceAt C H' a ps lv := by
  obtain ⟨dx, ca, h1, h2⟩ := h
  exact ⟨dx, ca, s _ _ h1, h2.keep s⟩
/-- a size that the parts of a piece have -/
def Few (ps : List Pp) : Prop := ps.length < 20000 ∧ (tmpl ps).length < 40000
def sp_Made_init (C : Addr) : Sp := fun vs H Q _ => ∃ (q dx a : Addr) (xs : List V) (lv : Str), vs = [.ref q, .ref a, .str lv] ∧ H q = some (.ins C dx []) ∧ H a = some (.lst xs) ∧ xs.length < 100000 ∧
  ∀ (ca : Addr) (H' : Hp), H ca = none → H' q = some (.ins C dx (fldsM ca lv)) → H' ca = some (.lst xs) → (∀ b o, H b = some o → b ≠ q → H' b = some o) → Q .non H'
def sp_template_of : Sp := fun vs H Q _ => ∃ (a : Addr) (ps : List Pp), vs = [.ref a] ∧ CellsAt H a ps ∧ Few ps ∧ ∀ H', Same H H' → Q (.str (S (tmpl ps))) H'
section
variable {P : Program} {w : World} {K : PySem.W.Frag} {mg : Str → Option Value} {base : Heap} {Z : Ad}
theorem ok_Made_init (T : Txt K mg Z) : FnOk P w K mg base CX0 1 Z.a_Made_init Z.d_Made_init ["self", "cells", "level"] (sp_Made_init Z.c_Made) := by
  refine T.F_Made_init.ok sc_Made_init (fun vs H Q E h => ?_) (fun cdv A outer s H vs Q E hr h => ?_)
  · obtain ⟨q, dx, a, xs, lv, rfl, _⟩ := h
    rfl
  · obtain ⟨qa, dx, a, xs, lv, rfl, hq, ha, hz, q⟩ := h
    have cM := T.cl_Made
    have n1 := T.n_Made_cells
    have n2 := T.n_Made_level
    refine ⟨_, (pss_cons (ps_fld (pv 0) (pe_callTy call_list_of (by rfl) T.u_list (by decide +kernel) (pa_cons (pv 1) pa_nil)) rfl)
  (pss_one (ps_fld (pv 0) (pv 2) rfl))), ?_⟩
    refine Eg.w_sig (σ := [some (.ref qa), some (.ref a), some (.str lv)]) rfl ?_
    walk_at "go"
    refine ⟨a, xs, rfl, .inl (SqL.of ha), fun l hl => ?_⟩
    have hlq : l ≠ qa := (ne_of_none hq hl).symm
    have h1q : upd H l (.lst xs) qa = some (.ins Z.c_Made dx []) := Eg.upd_old hq hl
    have h1l : upd H l (.lst xs) l = some (.lst xs) := upd_same
    have s1 : Same H (upd H l (.lst xs)) := fun c o e => Eg.upd_old e hl
    generalize upd H l (.lst xs) = H1 at h1q h1l s1 ⊢
    walk_at "go"
    exact q l _ hl (by rw [upd_same]; rfl) (Eg.upd_mut hlq (Eg.upd_mut hlq h1l)) fun b o e n => Eg.upd_mut n (Eg.upd_mut n (s1 _ _ e))
theorem pps_pairs {H : Hp} : ∀ {ys : List V} {ps : List Pp}, PcsAt H ys (ps.map pp) → ∃ L : List (Addr × Pp), ys = L.map (fun q => .ref q.1) ∧ L.map (·.2) = ps ∧ ∀ q ∈ L, H q.1 = some (.tup (pp q.2).vs)
  | _, [], .nil => ⟨[], rfl, rfl, fun _ z => nomatch z⟩
  | _, p :: ps, .cons ⟨t, e, ht⟩ r => by
    obtain ⟨L, h1, h2, h3⟩ := pps_pairs r
    refine ⟨(t, p) :: L, by rw [e, h1]; rfl, by rw [List.map_cons, h2], fun q hq => ?_⟩
    rcases List.mem_cons.mp hq with rfl | hq
    · exact ht
    · exact h3 q hq
theorem sum_len (X : List (List Nat)) : ((X.map S).map (·.length)).sum = X.flatten.length := by
  rw [List.length_flatten, List.map_map]
  congr 1
theorem joinL_emp : ∀ ys : List (List Nat), TL.joinL [] ys = ys.flatten
  | [] => rfl
  | [p] => by
    show p = p ++ []
    rw [List.append_nil]
  | p :: q :: r => by
    show p ++ ([] ++ TL.joinL [] (q :: r)) = p ++ (q :: r).flatten
    rw [List.nil_append, joinL_emp (q :: r)]
theorem join_emp (X : List (List Nat)) : Txt.join "" (X.map S) = S X.flatten := by
  rw [show ("" : Str) = S [] by decide +kernel, join_S, joinL_emp]
theorem tmpl_mem {ps : List Pp} {p : Pp} (h : p ∈ ps) : (tmplP p).length ≤ (tmpl ps).length := by
  obtain ⟨a, b, rfl⟩ := List.append_of_mem h
  unfold tmpl
  rw [List.flatMap_append, List.flatMap_cons, List.length_append, List.length_append]
  omega
theorem tmpl_flat (ps : List Pp) : (ps.map tmplP).flatten = tmpl ps := rfl
theorem tmpl_app (a b : List Pp) : tmpl (a ++ b) = tmpl a ++ tmpl b := List.flatMap_append
theorem ok_template_of (T : Txt K mg Z) : FnOk P w K mg base CX0 1 Z.a_template_of Z.d_template_of ["cells"] sp_template_of := by
  refine T.F_template_of.ok sc_template_of (fun vs H Q E h => ?_) (fun cdv A outer s H vs Q E hr h => ?_)
  · obtain ⟨a, ps, rfl, _⟩ := h
    rfl
  · obtain ⟨a, ps, rfl, ⟨ys, ha, py⟩, few, q⟩ := h
    have nd := sc_template_of.nd
    refine ⟨_, (pss_one (ps_ret (pe_join pe_str (pe_lc (own := [("part", 1)]) rfl nd (pi_list (pv 0)) (blkOk_by (N := N_template_of) (sc := defScope s_template_of) (by decide +kernel)) (fun _ _ _ _ _ => (pg_name (i := 1) nd rfl (Or.inl rfl))) (fun _ _ _ _ _ => pts_nil) (fun _ _ _ _ _ => (Eg.peE (pe_ifExp (pt_cmpR op_eq (pe_ix ix_tup (pv 1) pe_int (fun _ _ => rfl)) pe_str (nomark _)) (pe_ix ix_tup (pv 1) pe_int (fun _ _ => rfl)) (pe_op Es.op_addS (pe_op Es.op_addS pe_str (pe_ix ix_tup (pv 1) pe_int (fun _ _ => rfl))) pe_str)) (by walk_at "blk"))))))), ?_⟩
    refine Eg.w_sig (σ := [some (.ref a), none]) rfl ?_
    walk_at "gw"
    obtain ⟨L, h1, h2, h3⟩ := pps_pairs py
    rw [h1] at ha
    have ll : L.length = ps.length := by rw [← h2, List.length_map]
    have ml : ∀ z ∈ L, (tmplP z.2).length < 40000 := fun z hz => Nat.lt_of_le_of_lt (tmpl_mem (by rw [← h2]; exact List.mem_map.mpr ⟨z, hz, rfl⟩)) few.2
    refine fm_list (xs := L) (G := fun q => .ref q.1) (F := fun q => .str (S (tmplP q.2))) (P := fun _ => true) ha (by have := few.1; omega) (fun R h => ?_) (fun H' z R s' hz h => ?_) (fun H' z R s' hz hp h => ?_) (fun Y H5 hY s5 h5 => ?_)
    · walk_at "go"
      exact h
    · walk_at "go"
      exact h _ (Same.refl _)
    · obtain ⟨t', c⟩ := z
      have ht := s' _ _ (h3 _ hz)
      have := ml _ hz
      cases c with
      | inl l =>
        have ht : H' t' = some (.tup [.str "say", .str (S l)]) := ht
        walk_at "go"
        rw [decide_eq_true (rfl : V.str "say" = V.str "say")]
        walk_at "go"
        exact h _ (Same.refl _)
      | inr x =>
        obtain ⟨k, v⟩ := x
        have ht : H' t' = some (.tup [.str "hole", .str (S k), v]) := ht
        walk_at "go"
        rw [decide_eq_false (show ¬ V.str "hole" = V.str "say" from fun z => absurd (V.str.inj z) (by decide +kernel))]
        have kl : k.length + 2 < 40000 := by
          have e : (tmplP (.inr (k, v))).length = k.length + 2 := by
            show (123 :: (k ++ [125])).length = _
            rw [List.length_cons, List.length_append]
            rfl
          rw [e] at this
          exact this
        walk_at "go"
        refine c_addO (by omega) ?_
        walk_at "go"
        refine c_addC (by rw [List.length_cons]; omega) ?_
        exact h _ (Same.refl _)
    · rw [List.filter_eq_self.mpr fun _ _ => rfl] at h5
      walk_at "go"
      have f1 := few.1
      have f2 := few.2
      refine Es.jn_leaf (ys := (ps.map tmplP).map S) (.inl (SqL.of (by rw [h5, ← h2, List.map_map, List.map_map, List.map_map]; rfl))) ?_ ?_
      · rw [sum_len, tmpl_flat, List.length_map, List.length_map, show ("" : Str).length = 0 by decide +kernel]
        omega
      · rw [join_emp, tmpl_flat]
        exact q H5 s5
def sp_in_parentheses : Sp := fun vs H Q _ => ∃ (a : Addr) (ps : List Pp), vs = [.ref a] ∧ CellsAt H a ps ∧ Few ps ∧
  ∀ (r : Addr) (H' : Hp), H r = none → CellsAt H' r (Sum.inl [40] :: (ps ++ [Sum.inl [41]])) → Same H H' → Q (.ref r) H'
end
end LW
end

section
namespace LW
open PySem L2 SX Tx Tl
/-! a template read: the parts of a piece -/
/-- a part as it is read -/
def hk : Pp → Pc
  | .inl l => .say l
  | .inr (k, _) => hole k
def tokP (ps : List Pp) : List Tk := ps.flatMap fun p => match p with | .inl l => l.map Tk.ch | .inr (k, _) => [Tk.ho k]
theorem flat_ch' : ∀ l : List Nat, flat (l.map Tk.ch) = l
  | [] => rfl
  | c :: r => by
    show c :: flat (r.map Tk.ch) = c :: r
    rw [flat_ch' r]
theorem flat_tokP : ∀ ps : List Pp, flat (tokP ps) = tmpl ps
  | [] => rfl
  | .inl l :: r => by
    show flat (l.map Tk.ch ++ tokP r) = l ++ tmpl r
    rw [flat_app, flat_ch', flat_tokP r]
  | .inr (k, v) :: r => by
    show flat ([Tk.ho k] ++ tokP r) = (123 :: (k ++ [125])) ++ tmpl r
    rw [flat_app, flat_tokP r]
    rfl
theorem raw_ch : ∀ (l cur : List Nat) (t : List Tk), raw cur (l.map Tk.ch ++ t) = raw (cur ++ l) t
  | [], cur, t => by rw [List.append_nil]; rfl
  | c :: r, cur, t => by
    show raw (cur ++ [c]) (r.map Tk.ch ++ t) = _
    rw [raw_ch r, List.append_assoc]
    rfl
theorem put_app (acc : List Pc) (a b : List Nat) : put acc (.say (a ++ b)) = put (put acc (.say a)) (.say b) := by
  by_cases ha : a = []
  · subst ha
    rfl
  by_cases hb : b = []
  · subst hb
    rw [List.append_nil]
    rfl
  have hab : a ++ b ≠ [] := fun z => ha (List.append_eq_nil_iff.mp z).1
  rcases put_cases acc (.say a) with ⟨e, _⟩ | ⟨m, l, _, e, h1, h⟩ | ⟨_, h⟩
  · exact absurd (Pc.say.inj e) ha
  · cases Pc.say.inj e
    rw [h, put_say_say hab h1]
    have h2 : (acc.dropLast ++ [Pc.say (m ++ a)]).getLast? = some (.say (m ++ a)) := by rw [List.getLast?_append]; rfl
    rw [put_say_say hb h2, List.dropLast_concat, List.append_assoc]
  · rw [h]
    have h2 : (acc ++ [Pc.say a]).getLast? = some (.say a) := by rw [List.getLast?_append]; rfl
    rw [put_say_say hb h2, List.dropLast_concat]
    refine put_say_new hab fun m hm => ?_
    have := put_say_say ha hm
    rw [h] at this
    have l1 := congrArg List.length this
    rw [List.length_append, List.length_append, List.length_dropLast] at l1
    have : acc.length ≠ 0 := fun z => by
      rw [List.eq_nil_of_length_eq_zero z] at hm
      cases hm
    have : ([Pc.say a] : List Pc).length = 1 := rfl
    have : ([Pc.say (m ++ a)] : List Pc).length = 1 := rfl
    omega
theorem raw_tokP : ∀ (ps : List Pp) (cur : List Nat) (acc : List Pc), (raw cur (tokP ps)).foldl put acc = (ps.map hk).foldl put (put acc (.say cur))
  | [], _, _ => rfl
  | .inl l :: r, cur, acc => by
    show (raw cur (l.map Tk.ch ++ tokP r)).foldl put acc = (r.map hk).foldl put (put (put acc (.say cur)) (.say l))
    rw [raw_ch, raw_tokP r, put_app]
  | .inr (k, v) :: r, cur, acc => by
    show (raw [] (tokP r)).foldl put (put (put acc (.say cur)) (hole k)) = (r.map hk).foldl put (put (put acc (.say cur)) (hole k))
    rw [raw_tokP r]
    rfl
theorem put_hk (acc : List Pp) (p : Pp) : put (acc.map hk) (hk p) = (putP acc p).map hk := by
  cases p with
  | inr x =>
    show acc.map hk ++ [_] = _
    unfold putP
    rw [List.map_append]
    rfl
  | inl l =>
    unfold putP
    show (if l = [] then acc.map hk else match (acc.map hk).getLast? with
      | some (.say m) => (acc.map hk).dropLast ++ [.say (m ++ l)]
      | _ => acc.map hk ++ [.say l]) = _
    by_cases hl : l = []
    · rw [if_pos hl]
      dsimp only
      rw [if_pos hl]
    · rw [if_neg hl]
      dsimp only
      rw [if_neg hl, List.getLast?_map]
      cases h : acc.getLast? with
      | none =>
        show acc.map hk ++ [.say l] = (acc ++ [(Sum.inl l : Pp)]).map hk
        rw [List.map_append]
        rfl
      | some q =>
        cases q with
        | inl m =>
          show (acc.map hk).dropLast ++ [.say (m ++ l)] = (acc.dropLast ++ [(Sum.inl (m ++ l) : Pp)]).map hk
          rw [List.map_append, List.map_dropLast]
          rfl
        | inr x =>
          show acc.map hk ++ [.say l] = (acc ++ [(Sum.inl l : Pp)]).map hk
          rw [List.map_append]
          rfl
theorem read_tokP (ps : List Pp) : merge (raw [] (tokP ps)) = (mergeP ps).map hk := by
  unfold merge mergeP
  rw [raw_tokP]
  have : ∀ (qs acc : List Pp), (qs.map hk).foldl put (acc.map hk) = (qs.foldl putP acc).map hk := by
    intro qs
    induction qs with
    | nil => exact fun _ => rfl
    | cons q r ih =>
      intro acc
      rw [List.map_cons, List.foldl_cons, List.foldl_cons, put_hk, ih]
  exact this ps []
/-! merged parts: what stays -/
def holeP : Pp → Bool | .inl _ => false | .inr _ => true
theorem putP_tmpl (acc : List Pp) (p : Pp) : tmpl (putP acc p) = tmpl acc ++ tmplP p := by
  cases p with
  | inr x =>
    unfold putP
    rw [tmpl_app]
    show _ ++ (tmplP _ ++ []) = _
    rw [List.append_nil]
  | inl l =>
    unfold putP
    dsimp only
    split
    · rename_i h
      rw [h]
      exact (List.append_nil _).symm
    · split
      · rename_i m hm
        have e := congrArg tmpl (last_split hm)
        rw [tmpl_app] at e
        rw [tmpl_app, e, List.append_assoc]
        show _ ++ ((m ++ l) ++ []) = _ ++ ((m ++ []) ++ l)
        rw [List.append_nil, List.append_nil]
      · rw [tmpl_app]
        show _ ++ (l ++ []) = _ ++ l
        rw [List.append_nil]
theorem mergeP_tmpl (ps : List Pp) : tmpl (mergeP ps) = tmpl ps := by
  unfold mergeP
  have : ∀ (qs acc : List Pp), tmpl (qs.foldl putP acc) = tmpl acc ++ tmpl qs := by
    intro qs
    induction qs with
    | nil => exact fun acc => (List.append_nil _).symm
    | cons q r ih =>
      intro acc
      rw [List.foldl_cons, ih, putP_tmpl, List.append_assoc]
      rfl
  exact this ps []
theorem putP_holes (acc : List Pp) (p : Pp) : (putP acc p).filter holeP = acc.filter holeP ++ [p].filter holeP := by
  cases p with
  | inr x =>
    unfold putP
    rw [List.filter_append]
  | inl l =>
    unfold putP
    dsimp only
    split
    · exact (List.append_nil _).symm
    · split
      · rename_i m hm
        have e := congrArg (List.filter holeP) (last_split hm)
        rw [List.filter_append] at e
        rw [List.filter_append, e]
        show acc.dropLast.filter holeP ++ [] = (acc.dropLast.filter holeP ++ []) ++ []
        rw [List.append_nil, List.append_nil]
      · rw [List.filter_append]
theorem mergeP_holes (ps : List Pp) : (mergeP ps).filter holeP = ps.filter holeP := by
  unfold mergeP
  have : ∀ (qs acc : List Pp), (qs.foldl putP acc).filter holeP = acc.filter holeP ++ qs.filter holeP := by
    intro qs
    induction qs with
    | nil => exact fun acc => (List.append_nil _).symm
    | cons q r ih =>
      intro acc
      rw [List.foldl_cons, ih, putP_holes, List.append_assoc, ← List.filter_append]
      rfl
  exact this ps []
theorem mergeP_len (ps : List Pp) : (mergeP ps).length ≤ ps.length := by
  have := merge_len (ps.map pp)
  rw [merge_pp, List.length_map, List.length_map] at this
  exact this
theorem Few.merge {ps : List Pp} (h : Few ps) : Few (mergeP ps) := ⟨Nat.lt_of_le_of_lt (mergeP_len ps) h.1, by rw [mergeP_tmpl]; exact h.2⟩
/-! merged once is merged -/
inductive Nm : List Pp → Prop
  | nil : Nm []
  | hole {a : List Pp} (h : Nm a) (x : List Nat × V) : Nm (a ++ [.inr x])
  | say {a : List Pp} (h : Nm a) {l : List Nat} (hl : l ≠ []) (hn : ∀ m, a.getLast? ≠ some (.inl m)) : Nm (a ++ [.inl l])
theorem mergeP_snoc (ps : List Pp) (p : Pp) : mergeP (ps ++ [p]) = putP (mergeP ps) p := by
  unfold mergeP
  rw [List.foldl_append]
  rfl
theorem putP_new {a : List Pp} {l : List Nat} (hl : l ≠ []) (hn : ∀ m, a.getLast? ≠ some (.inl m)) : putP a (.inl l) = a ++ [.inl l] := by
  unfold putP
  dsimp only
  rw [if_neg hl]
  split
  · rename_i m e
    exact absurd e (hn m)
  · rfl
theorem Nm.merge {ps : List Pp} (h : Nm ps) : mergeP ps = ps := by
  induction h with
  | nil => rfl
  | hole h x ih =>
    rw [mergeP_snoc, ih]
    rfl
  | say h hl hn ih => rw [mergeP_snoc, ih, putP_new hl hn]
theorem Nm.drop {a : List Pp} {m : List Nat} (h : Nm a) (e : a.getLast? = some (.inl m)) : Nm a.dropLast ∧ ∀ m', a.dropLast.getLast? ≠ some (.inl m') := by
  cases h with
  | nil => cases e
  | hole h x =>
    rw [List.getLast?_append] at e
    cases e
  | say h hl hn =>
    rw [List.dropLast_concat]
    exact ⟨h, hn⟩
theorem Nm.put {a : List Pp} (h : Nm a) (p : Pp) : Nm (putP a p) := by
  cases p with
  | inr x => exact .hole h x
  | inl l =>
    by_cases hl : l = []
    · subst hl
      exact h
    · cases e : a.getLast? with
      | none => rw [putP_new hl (by rw [e]; exact fun _ z => nomatch z)]; exact .say h hl (by rw [e]; exact fun _ z => nomatch z)
      | some q =>
        cases q with
        | inr x => rw [putP_new hl (by rw [e]; exact fun _ z => nomatch z)]; exact .say h hl (by rw [e]; exact fun _ z => nomatch z)
        | inl m =>
          obtain ⟨h1, h2⟩ := h.drop e
          have : putP a (.inl l) = a.dropLast ++ [.inl (m ++ l)] := by
            unfold putP
            dsimp only
            rw [if_neg hl, e]
          rw [this]
          exact .say h1 (fun z => hl (List.append_eq_nil_iff.mp z).2) h2
theorem mergeP_nm (ps : List Pp) : Nm (mergeP ps) := by
  unfold mergeP
  have : ∀ (qs acc : List Pp), Nm acc → Nm (qs.foldl putP acc) := by
    intro qs
    induction qs with
    | nil => exact fun _ h => h
    | cons q r ih => exact fun acc h => ih _ (h.put q)
  exact this ps [] .nil
theorem mergeP_idem (ps : List Pp) : mergeP (mergeP ps) = mergeP ps := (mergeP_nm ps).merge
end LW
end

section
local macro_rules | `(tactic| walk_at "tx") => `(tactic| first
  | with_reducible refine Pz.w_star ?_
  | ((with_reducible refine' Pz.c_starL ?hs ?_); (case hs => walk_at "hp"))
  | with_reducible refine Pz.w_mkR ?_
  | with_reducible refine Po.w_iSeq ?_
  | ((with_reducible refine' Po.c_ixA ?hs ?hv ?_); (case hs => assumption); (case hv => walk_at "at"))
  | ((with_reducible refine' Po.c_lenA ?hs ?_); (case hs => assumption))
  | ((with_reducible refine' Pz.w_mkVar ?hs ?_); (case hs => exact rfl)))
namespace LW
open PySem L2 SX Tx Tl
/-! a template with its values -/
def PpOk : Pp → Prop
  | .inl l => l.all litB = true
  | .inr (k, v) => (k = [] ∨ labelB k = true) ∧ k.length ≤ 14 ∧ IsVal v
def valP : Pp → Option V | .inr ([], v) => some v | _ => none
def labP : Pp → Option (List Nat) | .inr (c :: k, _) => some (c :: k) | _ => none
structure TabP (ps : List Pp) (kvs : List (Key × V)) : Prop where
  nd : (kvs.map (·.1)).Nodup
  at_ : ∀ y ∈ kvs, ∃ k, y.1 = .inr (S k) ∧ k ∈ ps.filterMap labP ∧ IsVal y.2
  has : ∀ c k v, Sum.inr (c :: k, v) ∈ ps → valV kvs (.inr (S (c :: k))) = some v
  few : kvs.length < 64
def sp_check_value : Sp := fun vs H Q _ => ∃ v, vs = [v] ∧ IsVal v ∧ Q .non H
def sp_valued : Sp := fun vs H Q _ => ∃ (va da : Addr) (ps : List Pp) (kvs : List (Key × V)), vs = [.str (S (tmpl ps)), .ref va, .ref da] ∧ Po.SeqAt H va (ps.filterMap valP) ∧ H da = some (.dK kvs) ∧ Few ps ∧ (∀ p ∈ ps, PpOk p) ∧ TabP ps kvs ∧
  ∀ (r : Addr) (H' : Hp), H r = none → CellsAt H' r (mergeP ps) → Same H H' → Q (.ref r) H'
theorem label_no0 {l : List Nat} (h : labelB l = true) : ∀ c ∈ l, c ≠ 125 ∧ c < 16 ^ 8 := by
  obtain ⟨d, hd, hdd⟩ := stem_app l
  unfold labelB at h
  rw [Bool.and_eq_true] at h
  have hw := h.1
  unfold wordB at hw
  rw [Bool.and_eq_true] at hw
  intro c hc
  rw [hd] at hc
  rcases List.mem_append.mp hc with hc | hc
  · have := List.all_eq_true.mp hw.2 c hc
    unfold low at this
    simp only [Bool.and_eq_true, decide_eq_true_eq] at this
    exact ⟨by omega, Nat.lt_of_le_of_lt this.2 (by decide)⟩
  · have := List.all_eq_true.mp hdd c hc
    unfold dig at this
    simp only [Bool.and_eq_true, decide_eq_true_eq] at this
    exact ⟨by omega, Nat.lt_of_le_of_lt this.2 (by decide)⟩
theorem label_no' {k : List Nat} (h : labelB k = true) (hm : 125 ∈ k) : False := (label_no0 h _ hm).1 rfl
theorem tok_ok {ps : List Pp} (h : ∀ p ∈ ps, PpOk p) : ∀ t ∈ tokP ps, RdOk "template" t := by
  intro t ht
  obtain ⟨p, hp, ht⟩ := List.mem_flatMap.mp ht
  have := h p hp
  cases p with
  | inl l =>
    obtain ⟨c, hc, rfl⟩ := List.mem_map.mp ht
    exact List.all_eq_true.mp this c hc
  | inr x =>
    obtain ⟨k, v⟩ := x
    rw [List.mem_singleton.mp ht]
    obtain ⟨h1, h2, _⟩ := this
    refine ⟨by decide +kernel, fun hm => ?_, ?_⟩
    · rcases h1 with rfl | h1
      · cases hm
      · exact label_no' h1 hm
    · show keyB "template" k = true
      have n1 : decide (("template" : Str) = "order") = false := by decide +kernel
      have n2 : decide (("template" : Str) = "number") = false := by decide +kernel
      have n3 : decide (("template" : Str) = "template") = true := by decide +kernel
      unfold keyB
      rw [n1, n2, n3]
      rcases h1 with rfl | h1
      · decide
      · simp [h1]
theorem vals_ok {ps : List Pp} (h : ∀ p ∈ ps, PpOk p) {v : V} (hv : v ∈ ps.filterMap valP) : IsVal v := by
  obtain ⟨p, hp, e⟩ := List.mem_filterMap.mp hv
  have := h p hp
  cases p with
  | inl l => cases e
  | inr x =>
    obtain ⟨k, w⟩ := x
    cases k with
    | nil =>
      cases e
      exact this.2.2
    | cons c k => cases e
theorem TabP.strs {ps : List Pp} {kvs : List (Key × V)} (t : TabP ps kvs) : ∃ zs : List Str, kvs.map (·.1) = zs.map Sum.inr := by
  have h := t.at_
  clear t
  induction kvs with
  | nil => exact ⟨[], rfl⟩
  | cons y r ih =>
    obtain ⟨zs, hz⟩ := ih fun x hx => h x (List.mem_cons_of_mem _ hx)
    obtain ⟨k, e, _⟩ := h y List.mem_cons_self
    exact ⟨S k :: zs, by rw [List.map_cons, List.map_cons, hz, e]⟩
theorem TabP.get {ps : List Pp} {kvs : List (Key × V)} (t : TabP ps kvs) {k : Key} (h : k ∈ kvs.map (·.1)) : ∃ v, valV kvs k = some v ∧ IsVal v := by
  obtain ⟨⟨k', v⟩, hy, rfl⟩ := List.mem_map.mp h
  obtain ⟨_, _, _, iv⟩ := t.at_ _ hy
  exact ⟨v, val_mem t.nd hy, iv⟩
theorem pairs_of {α : Type} {f : α → Pc} {H : Hp} : ∀ {ps : List α} {ys : List V}, PcsAt H ys (ps.map f) → ∃ L : List (Addr × α), ys = L.map (fun q => V.ref q.1) ∧ L.map (·.2) = ps ∧ ∀ q ∈ L, H q.1 = some (.tup (f q.2).vs)
  | [], _, .nil => ⟨[], rfl, rfl, fun _ z => nomatch z⟩
  | p :: ps, _, .cons ⟨t, e, ht⟩ r => by
    obtain ⟨L, h1, h2, h3⟩ := pairs_of r
    refine ⟨(t, p) :: L, by rw [e, h1]; rfl, by rw [List.map_cons, h2], fun q hq => ?_⟩
    rcases List.mem_cons.mp hq with rfl | hq
    · exact ht
    · exact h3 q hq
theorem d_sh' : decide (V.str "say" = V.str "hole") = false := by decide +kernel
theorem labs_eq : ∀ L : List (Addr × Pp), (L.filter fun q => (labP q.2).isSome).map (fun q => V.str (S ((labP q.2).getD []))) = (((L.map (·.2)).filterMap labP).map fun k => (.inr (S k) : Key)).map kV
  | [] => rfl
  | (_, .inl _) :: r => labs_eq r
  | (_, .inr ([], _)) :: r => labs_eq r
  | (_, .inr (c :: k, _)) :: r => congrArg (V.str (S (c :: k)) :: ·) (labs_eq r)
theorem holes_count : ∀ ps : List Pp, (ps.filter holeP).length = (ps.filterMap labP).length + (ps.filterMap valP).length
  | [] => rfl
  | .inl _ :: r => holes_count r
  | .inr ([], _) :: r => by
    have := holes_count r
    show (r.filter holeP).length + 1 = (r.filterMap labP).length + ((r.filterMap valP).length + 1)
    omega
  | .inr (c :: k, _) :: r => by
    have := holes_count r
    show (r.filter holeP).length + 1 = ((r.filterMap labP).length + 1) + (r.filterMap valP).length
    omega
theorem lab_filt : ∀ ps : List Pp, ps.filterMap labP = (ps.filter holeP).filterMap labP
  | [] => rfl
  | .inl _ :: r => lab_filt r
  | .inr ([], v) :: r => lab_filt r
  | .inr (c :: k, _) :: r => congrArg ((c :: k) :: ·) (lab_filt r)
theorem val_filt : ∀ ps : List Pp, ps.filterMap valP = (ps.filter holeP).filterMap valP
  | [] => rfl
  | .inl _ :: r => val_filt r
  | .inr ([], v) :: r => congrArg (v :: ·) (val_filt r)
  | .inr (c :: k, _) :: r => val_filt r
theorem mergeP_lab (ps : List Pp) : (mergeP ps).filterMap labP = ps.filterMap labP := by rw [lab_filt, mergeP_holes, ← lab_filt]
theorem mergeP_val (ps : List Pp) : (mergeP ps).filterMap valP = ps.filterMap valP := by rw [val_filt, mergeP_holes, ← val_filt]
theorem TabP.lab {ps : List Pp} {kvs : List (Key × V)} (t : TabP ps kvs) {l : List Nat} (h : l ∈ ps.filterMap labP) : ∃ v, valV kvs (.inr (S l)) = some v := by
  obtain ⟨p, hp, e⟩ := List.mem_filterMap.mp h
  cases p with
  | inl _ => cases e
  | inr x =>
    obtain ⟨k, v⟩ := x
    cases k with
    | nil => cases e
    | cons c k =>
      cases e
      exact ⟨v, t.has c k v hp⟩
theorem TabP.inl {ps : List Pp} {kvs : List (Key × V)} (t : TabP ps kvs) {z : Str} (h : (.inr z : Key) ∈ kvs.map (·.1)) : (.inr z : Key) ∈ (ps.filterMap labP).map (fun k => (.inr (S k) : Key)) := by
  obtain ⟨y, hy, e⟩ := List.mem_map.mp h
  obtain ⟨k, e2, hk, _⟩ := t.at_ y hy
  exact List.mem_map.mpr ⟨k, hk, e2.symm.trans e⟩
theorem merge_mem {ps : List Pp} {x : List Nat × V} (h : Sum.inr x ∈ mergeP ps) : Sum.inr x ∈ ps := by
  have : Sum.inr x ∈ (mergeP ps).filter holeP := List.mem_filter.mpr ⟨h, rfl⟩
  rw [mergeP_holes] at this
  exact (List.mem_filter.mp this).1
theorem sz_pp : ∀ ps : List Pp, sz (ps.map pp) ≤ (tmpl ps).length
  | [] => Nat.le_refl _
  | p :: r => by
    have ih := sz_pp r
    have e1 : sz ((p :: r).map pp) = szP (pp p) + sz (r.map pp) := rfl
    have e2 : tmpl (p :: r) = tmplP p ++ tmpl r := rfl
    rw [e1, e2, List.length_append]
    have : szP (pp p) ≤ (tmplP p).length := by
      cases p with
      | inl l => exact Nat.le_refl _
      | inr x => exact Nat.zero_le _
    omega
section
variable {P : Program} {w : World} {K : PySem.W.Frag} {mg : Str → Option Value} {base : Heap} {Z : Ad}
theorem ok_check_value (T : Txt K mg Z) : FnOk P w K mg base CX0 2 Z.a_check_value Z.d_check_value ["thing"] sp_check_value := by
  refine T.F_check_value.ok sc_check_value (fun vs H Q E h => ?_) (fun cdv A outer s H vs Q E hr h => ?_)
  · obtain ⟨v, rfl, _⟩ := h
    rfl
  · obtain ⟨v, rfl, hv, q⟩ := h
    refine ⟨_, (pss_one (ps_if (pt_not (pt_val (pe_call (ok_is_value T) (hr.mono (by decide)) (by rfl) T.g_is_value T.F_is_value.kp T.b_is_value .nil pass0 (pa_cons (pv 0) pa_nil))))
  (pss_one Tw.ps_dead)
  pss_nil)), ?_⟩
    refine Eg.w_sig (σ := [some v]) rfl ?_
    walk_at "go"
    refine ⟨v, rfl, hv, ?_⟩
    walk_at "go"
    exact q
set_option maxHeartbeats 8000000 in
theorem ok_valued (T : Txt K mg Z) : FnOk P w K mg base CX0 5 Z.a_valued Z.d_valued ["text", "values", "named"] sp_valued := by
  refine T.F_valued.ok sc_valued (fun vs H Q E h => ?_) (fun cdv A outer s H vs Q E hr h => ?_)
  · obtain ⟨va, da, ps, kvs, rfl, _⟩ := h
    rfl
  · obtain ⟨va, da, ps, kvs, rfl, hva, hda, few, pok, tab, q⟩ := h
    have nd := sc_valued.nd
    have hu := hu_of hr
    refine ⟨_, (pss_cons (ps_set (i := 3) nd rfl (Or.inl rfl) (pe_call (ok_read_parts T) (hr.mono (by decide)) (by rfl) T.g_read_parts T.F_read_parts.kp T.b_read_parts .nil pass0 (pa_cons (pv 0) (pa_cons pe_str pa_nil))))
  (pss_cons (ps_for PassesOwn.never rfl (Po.pi_seq (pv 1)) (pg_name (i := 4) nd rfl (Or.inl rfl))
  (pss_one (ps_expr (pe_call (ok_check_value T) (hr.mono (by decide)) (by rfl) T.g_check_value T.F_check_value.kp T.b_check_value .nil pass0 (pa_cons (pv 4) pa_nil)))))
  (pss_cons (ps_for PassesOwn.never rfl (pi_list (pe_callB cr_sortedS (by rfl) T.u_sorted (by decide +kernel) (pa_cons (pe_callTy (Mk.cr_listE rfl) (by rfl) T.u_list (by decide +kernel) (pa_cons (pv 2) pa_nil)) pa_nil))) (pg_name (i := 5) nd rfl (Or.inl rfl))
  (pss_one (ps_expr (pe_call (ok_check_value T) (hr.mono (by decide)) (by rfl) T.g_check_value T.F_check_value.kp T.b_check_value .nil pass0 (pa_cons (pe_dget hu (pv 2) (pv 5) (fun _ _ => rfl)) pa_nil)))))
  (pss_cons (ps_setLc (i := 7) (own := [("part", 6)]) rfl nd rfl rfl (sw_true rfl rfl rfl (by decide +kernel)) (pi_list (pv 3)) (blkOk_by (N := N_valued) (sc := defScope s_valued) (by decide +kernel)) (fun _ _ _ _ _ => (pg_name (i := 6) nd rfl (Or.inl rfl))) (fun _ _ _ _ _ => (Eg.ptsE (pts_one (PW.pt (pw_and (pt_cmpR op_eq (pe_ix ix_tup (pv 6) pe_int (fun _ _ => rfl)) pe_str (nomark _)) (pw_and1 (pt_cmpR op_ne (pe_ix ix_tup (pv 6) pe_int (fun _ _ => rfl)) pe_str (nomark _)))))) (by walk_at "blk"))) (fun _ _ _ _ _ => (Eg.peE (pe_ix ix_tup (pv 6) pe_int (fun _ _ => rfl)) (by walk_at "blk"))))
  (pss_cons (ps_set (i := 8) nd rfl (Or.inl rfl) (pe_op op_sub (pe_callB Eg.cr_len (by rfl) T.u_len (by decide +kernel) (pa_cons (pe_lc (own := [("part", 6)]) rfl nd (pi_list (pv 3)) (blkOk_by (N := N_valued) (sc := defScope s_valued) (by decide +kernel)) (fun _ _ _ _ _ => (pg_name (i := 6) nd rfl (Or.inl rfl))) (fun _ _ _ _ _ => (Eg.ptsE (pts_one (pt_cmpR op_eq (pe_ix ix_tup (pv 6) pe_int (fun _ _ => rfl)) pe_str (nomark _))) (by walk_at "blk"))) (fun _ _ _ _ _ => (Eg.peE (pv 6) (by walk_at "blk")))) pa_nil)) (pe_callB Eg.cr_len (by rfl) T.u_len (by decide +kernel) (pa_cons (pv 7) pa_nil))))
  (pss_cons (ps_if (pt_cmpR op_ne (pv 8) (pe_callB Eg.cr_len (by rfl) T.u_len (by decide +kernel) (pa_cons (pv 1) pa_nil)) (nomark _))
  (pss_one Tw.ps_dead)
  pss_nil)
  (pss_cons (ps_for PassesOwn.never rfl (pi_list (pv 7)) (pg_name (i := 9) nd rfl (Or.inl rfl))
  (pss_one (ps_if (pt_cmp (pc_dnotin hu (pv 9) (pv 2)))
  (pss_one Tw.ps_dead)
  pss_nil)))
  (pss_cons (ps_for PassesOwn.never rfl (pi_list (pe_callB cr_sortedS (by rfl) T.u_sorted (by decide +kernel) (pa_cons (pe_callTy (Mk.cr_listE rfl) (by rfl) T.u_list (by decide +kernel) (pa_cons (pv 2) pa_nil)) pa_nil))) (pg_name (i := 5) nd rfl (Or.inl rfl))
  (pss_one (ps_if (pt_cmpR op_notIn_seq (pv 5) (pv 7) (by rfl))
  (pss_one Tw.ps_dead)
  pss_nil)))
  (pss_cons (ps_set (i := 10) nd rfl (Or.inl rfl) (pe_lst pa_nil))
  (pss_cons (ps_set (i := 11) nd rfl (Or.inl rfl) pe_int)
  (pss_cons (ps_for PassesOwn.never rfl (pi_list (pv 3)) (pg_name (i := 6) nd rfl (Or.inl rfl))
  (pss_one (ps_if (pt_cmpR op_eq (pe_ix ix_tup (pv 6) pe_int (fun _ _ => rfl)) pe_str (nomark _))
  (pss_one (ps_expr (pe_bm PySem.F.plainAttrs_list PySem.F.slot_list_append PySem.F.type_list_append mt_append (pv 10) (pa_cons (pv 6) pa_nil))))
  (pss_one (ps_if (pt_cmpR op_ne (pe_ix ix_tup (pv 6) pe_int (fun _ _ => rfl)) pe_str (nomark _))
  (pss_one (ps_expr (pe_bm PySem.F.plainAttrs_list PySem.F.slot_list_append PySem.F.type_list_append mt_append (pv 10) (pa_cons (pe_tup (pa_cons pe_str (pa_cons (pe_ix ix_tup (pv 6) pe_int (fun _ _ => rfl)) (pa_cons (pe_dget hu (pv 2) (pe_ix ix_tup (pv 6) pe_int (fun _ _ => rfl)) (fun _ _ => rfl)) pa_nil)))) pa_nil))))
  (pss_cons (ps_expr (pe_bm PySem.F.plainAttrs_list PySem.F.slot_list_append PySem.F.type_list_append mt_append (pv 10) (pa_cons (pe_tup (pa_cons pe_str (pa_cons pe_str (pa_cons (pe_ix Po.ix_seq (pv 1) (pv 11) (fun _ _ => rfl)) pa_nil)))) pa_nil)))
  (pss_one (ps_set (i := 11) nd rfl (Or.inl rfl) (pe_op op_add (pv 11) pe_int)))))))))
  (pss_one (ps_ret (pv 10)))))))))))))), ?_⟩
    refine Eg.w_sig (σ := [some (.str (S (tmpl ps))), some (.ref va), some (.ref da), none, none, none, none, none, none, none, none, none]) rfl ?_
    have vlen : (ps.filterMap valP).length ≤ ps.length := List.length_filterMap_le _ _
    have f1 := few.1
    walk_at "go"
    refine ⟨tokP ps, "template", by rw [flat_tokP]; rfl, by rw [flat_tokP]; exact few.2, tok_ok pok, fun pa ys H1 hpa h1p py s1 => ?_⟩
    rw [read_tokP] at py
    have h1v := hva.keep fun o e => s1 _ _ e
    have h1d := s1 _ _ hda
    have ylen := py.len
    rw [List.length_map] at ylen
    have mlen := mergeP_len ps
    walk_at "go"
    refine Po.for_seq h1v (fun j σ' H' => ∃ v4 : Option V, σ' = [some (.str (S (tmpl ps))), some (.ref va), some (.ref da), some (.ref pa), v4, none, none, none, none, none, none, none] ∧ H1 = H') ⟨none, rfl, rfl⟩ ?_ ?_ ?_
    · rintro j _ _ ⟨v4, rfl, rfl⟩ o e
      exact e
    · rintro j x _ _ hx ⟨v4, rfl, rfl⟩
      have hv := vals_ok pok (List.mem_of_getElem? hx)
      walk_at "go"
      refine ⟨x, rfl, hv, ?_⟩
      walk_at "go"
      exact ⟨_, rfl, rfl⟩
    rintro _ _ ⟨v4, rfl, rfl⟩
    obtain ⟨zs, hzs⟩ := tab.strs
    have kz : (kvs.map fun kv => kV kv.1) = zs.map V.str := by
      have := congrArg (List.map kV) hzs
      rw [List.map_map, List.map_map] at this
      exact this
    have zl : zs.length = kvs.length := by
      have := congrArg List.length hzs
      rw [List.length_map, List.length_map] at this
      exact this.symm
    have fewk := tab.few
    walk_at "go"
    refine Mk.c_listD h1d fun L hL => ?_
    rw [kz]
    have h2L : upd H1 L (.lst (zs.map V.str)) L = some (.lst (zs.map V.str)) := upd_same
    have s2 : Same H1 (upd H1 L (.lst (zs.map V.str))) := fun c o e => Eg.upd_old e hL
    generalize upd H1 L (.lst (zs.map V.str)) = H2 at h2L s2 ⊢
    walk_at "go"
    refine ⟨L, zs, rfl, SqL.of h2L, by omega, fun ms M pm srt hM => ?_⟩
    have h3M : upd H2 M (.lst (ms.map V.str)) M = some (.lst (ms.map V.str)) := upd_same
    have s3 : Same H2 (upd H2 M (.lst (ms.map V.str))) := fun c o e => Eg.upd_old e hM
    generalize upd H2 M (.lst (ms.map V.str)) = H3 at h3M s3 ⊢
    have s13 := s2.trans s3
    have h3d := s13 _ _ h1d
    have h3v := h1v.keep fun o e => s13 _ _ e
    have h3p := s13 _ _ h1p
    have getv : ∀ z ∈ ms, ∃ v, valV kvs (.inr z) = some v ∧ IsVal v := fun z hz => tab.get (by rw [hzs]; exact List.mem_map.mpr ⟨z, pm.mem_iff.mp hz, rfl⟩)
    walk_at "go"
    refine for_list (xs := ms.map V.str) (fun j σ' H' => ∃ v5 : Option V, σ' = [some (.str (S (tmpl ps))), some (.ref va), some (.ref da), some (.ref pa), v4, v5, none, none, none, none, none, none] ∧ H3 = H') ⟨none, rfl, rfl⟩ ?_ ?_ ?_
    · rintro j _ _ _ ⟨v5, rfl, rfl⟩
      exact SqL.of h3M
    · rintro j x _ _ hx ⟨v5, rfl, rfl⟩
      obtain ⟨z, hz, rfl⟩ := List.mem_map.mp (List.mem_of_getElem? hx)
      obtain ⟨v, hv, vv⟩ := getv z hz
      have dg := Tw.dgetK (k := .inr z) (.inl h3d)
      rw [hv] at dg
      walk_at "go"
      refine ⟨da, v, rfl, dg, ?_⟩
      walk_at "go"
      refine ⟨v, rfl, vv, ?_⟩
      walk_at "go"
      exact ⟨_, rfl, rfl⟩
    rintro _ _ ⟨v5, rfl, rfl⟩
    obtain ⟨L0, hL1, hL2, hL3⟩ := pairs_of py
    have L0l : L0.length = (mergeP ps).length := by rw [← hL2, List.length_map]
    rw [hL1] at h3p
    have h3t : ∀ q ∈ L0, H3 q.1 = some (.tup (hk q.2).vs) := fun q hq => s13 _ _ (hL3 q hq)
    clear h2L h3M hL s2 s3 hM hL3 h1v h1d h1p
    walk_at "gw"
    refine fm_list (xs := L0) (G := fun q => .ref q.1) (F := fun q => .str (S ((labP q.2).getD []))) (P := fun q => (labP q.2).isSome) h3p (by omega) (fun R h => ?_) (fun H' z R s' hz h => ?_) (fun H' z R s' hz hp h => ?_) (fun LA H4 hLA s4 h4 => ?_)
    · walk_at "go"
      exact h
    · obtain ⟨t', c⟩ := z
      have ht := s' _ _ (h3t _ hz)
      cases c with
      | inl l =>
        have ht : H' t' = some (.tup [.str "say", .str (S l)]) := ht
        walk_at "gw"
        rw [d_sh']
        walk_at "gw"
        exact h _ (Same.refl _)
      | inr x =>
        obtain ⟨k, v⟩ := x
        have ht : H' t' = some (.tup [.str "hole", .str (S k)]) := ht
        walk_at "gw"
        rw [decide_eq_true (rfl : V.str "hole" = V.str "hole")]
        walk_at "gw"
        rw [str_emp]
        cases k with
        | nil => exact h _ (Same.refl _)
        | cons c k => exact h _ (Same.refl _)
    · obtain ⟨t', c⟩ := z
      have ht := s' _ _ (h3t _ hz)
      cases c with
      | inl l => cases hp
      | inr x =>
        obtain ⟨k, v⟩ := x
        have ht : H' t' = some (.tup [.str "hole", .str (S k)]) := ht
        walk_at "go"
        cases k with
        | nil => cases hp
        | cons c k => exact h _ (Same.refl _)
    have labs : (L0.filter fun q => (labP q.2).isSome).map (fun q => V.str (S ((labP q.2).getD []))) = (((mergeP ps).filterMap labP).map fun k => (.inr (S k) : Key)).map kV := by
      rw [← hL2]
      exact labs_eq L0
    rw [labs] at h4
    have h4p := s4 _ _ h3p
    have h4t : ∀ q ∈ L0, H4 q.1 = some (.tup (hk q.2).vs) := fun q hq => s4 _ _ (h3t q hq)
    clear h3p h3t
    walk_at "gw"
    refine fm_list (xs := L0) (G := fun q => .ref q.1) (F := fun q => .ref q.1) (P := fun q => holeP q.2) h4p (by omega) (fun R h => ?_) (fun H' z R s' hz h => ?_) (fun H' z R s' hz hp h => ?_) (fun LB H5 hLB s5 h5 => ?_)
    · walk_at "go"
      exact h
    · obtain ⟨t', c⟩ := z
      have ht := s' _ _ (h4t _ hz)
      cases c with
      | inl l =>
        have ht : H' t' = some (.tup [.str "say", .str (S l)]) := ht
        walk_at "go"
        rw [d_sh']
        exact h _ (Same.refl _)
      | inr x =>
        obtain ⟨k, v⟩ := x
        have ht : H' t' = some (.tup [.str "hole", .str (S k)]) := ht
        walk_at "go"
        rw [decide_eq_true (rfl : V.str "hole" = V.str "hole")]
        exact h _ (Same.refl _)
    · walk_at "go"
      exact h _ (Same.refl _)
    have h5A := s5 _ _ h4
    have h5v := h3v.keep fun o e => s5 _ _ (s4 _ _ e)
    walk_at "gw"
    have cnt : (((((L0.filter fun q => holeP q.2).map fun q => V.ref q.1).length : Nat) : Int) - (((((mergeP ps).filterMap labP).map fun k => (.inr (S k) : Key)).map kV).length : Nat)) = ((ps.filterMap valP).length : Nat) := by
      have e1 : (L0.filter fun q => holeP q.2).length = ((mergeP ps).filter holeP).length := by
        rw [← hL2, List.filter_map, List.length_map]
        rfl
      have e2 := holes_count (mergeP ps)
      rw [mergeP_val] at e2
      rw [List.length_map, List.length_map, List.length_map, e1]
      omega
    rw [cnt, decide_eq_true rfl]
    have h5d := s5 _ _ (s4 _ _ h3d)
    have labk : ∀ k ∈ ((mergeP ps).filterMap labP).map (fun k => (.inr (S k) : Key)), ∃ v, valV kvs k = some v := fun k hk => by
      obtain ⟨l, hl, rfl⟩ := List.mem_map.mp hk
      rw [mergeP_lab] at hl
      exact tab.lab hl
    walk_at "go"
    refine for_list (xs := (((mergeP ps).filterMap labP).map fun k => (.inr (S k) : Key)).map kV) (fun j σ' H' => ∃ v9 : Option V, σ' = [some (.str (S (tmpl ps))), some (.ref va), some (.ref da), some (.ref pa), v4, v5, none, some (.ref LA), some (.int ((ps.filterMap valP).length : Nat)), v9, none, none] ∧ H5 = H') ⟨none, ?_, rfl⟩ ?_ ?_ ?_
    · rfl
    · rintro j _ _ _ ⟨v9, rfl, rfl⟩
      exact SqL.of h5A
    · rintro j x _ _ hx ⟨v9, rfl, rfl⟩
      obtain ⟨k, hk', rfl⟩ := List.mem_map.mp (List.mem_of_getElem? hx)
      obtain ⟨v, hv⟩ := labk k hk'
      have dg := Tw.dgetK (k := k) (.inl h5d)
      rw [hv] at dg
      walk_at "go"
      refine ⟨da, _, rfl, dg, ?_⟩
      walk_at "go"
      refine Eg.brF rfl ?_
      walk_at "go"
      exact ⟨_, rfl, rfl⟩
    rintro _ _ ⟨v9, rfl, rfl⟩
    walk_at "go"
    refine Mk.c_listD h5d fun L2 hL2' => ?_
    rw [kz]
    have h6L : upd H5 L2 (.lst (zs.map V.str)) L2 = some (.lst (zs.map V.str)) := upd_same
    have s6 : Same H5 (upd H5 L2 (.lst (zs.map V.str))) := fun c o e => Eg.upd_old e hL2'
    generalize upd H5 L2 (.lst (zs.map V.str)) = H6 at h6L s6 ⊢
    walk_at "go"
    refine ⟨L2, zs, rfl, SqL.of h6L, by omega, fun ms2 M2 pm2 srt2 hM2 => ?_⟩
    have h7M : upd H6 M2 (.lst (ms2.map V.str)) M2 = some (.lst (ms2.map V.str)) := upd_same
    have s7 : Same H6 (upd H6 M2 (.lst (ms2.map V.str))) := fun c o e => Eg.upd_old e hM2
    generalize upd H6 M2 (.lst (ms2.map V.str)) = H7 at h7M s7 ⊢
    have s57 := s6.trans s7
    have h7A := s57 _ _ h5A
    have h7v := h5v.keep fun o e => s57 _ _ e
    have h7d := s57 _ _ h5d
    have h7p := s57 _ _ (s5 _ _ h4p)
    have h7t : ∀ q ∈ L0, H7 q.1 = some (.tup (hk q.2).vs) := fun q hq => s57 _ _ (s5 _ _ (h4t q hq))
    have s07 : Same H H7 := ((((s1.trans s13).trans s4).trans s5).trans s57)
    clear h6L h5A h5v h5d h4p h4t h4 h3v h3d h5 hL2' hM2 s6 s7
    walk_at "go"
    refine for_list (xs := ms2.map V.str) (fun j σ' H' => ∃ v5 : Option V, σ' = [some (.str (S (tmpl ps))), some (.ref va), some (.ref da), some (.ref pa), v4, v5, none, some (.ref LA), some (.int ((ps.filterMap valP).length : Nat)), v9, none, none] ∧ H7 = H') ⟨v5, rfl, rfl⟩ ?_ ?_ ?_
    · rintro j _ _ _ ⟨v5, rfl, rfl⟩
      exact SqL.of h7M
    · rintro j x _ _ hx ⟨v5, rfl, rfl⟩
      obtain ⟨z, hz, rfl⟩ := List.mem_map.mp (List.mem_of_getElem? hx)
      have zin : (.inr z : Key) ∈ ((mergeP ps).filterMap labP).map (fun k => (.inr (S k) : Key)) := by
        rw [mergeP_lab]
        exact tab.inl (by rw [hzs]; exact List.mem_map.mpr ⟨z, pm2.mem_iff.mp hz, rfl⟩)
      walk_at "go"
      refine Tw.c_notIn (k := .inr z) h7A ?_
      rw [decide_eq_true zin]
      walk_at "go"
      exact ⟨_, rfl, rfl⟩
    rintro _ _ ⟨v5, rfl, rfl⟩
    walk_at "go"
    intro F hF
    have fresh : ∀ c o, H7 c = some o → c ≠ F := fun c o e => ne_of_none e hF
    have h0F : H F = none := s07.free hF
    walk_at "go"
    refine for_list (xs := L0.map fun q => V.ref q.1) (fun j σ' H' => ∃ (v6 : Option V) (xs : List V), σ' = [some (.str (S (tmpl ps))), some (.ref va), some (.ref da), some (.ref pa), v4, v5, v6, some (.ref LA), some (.int ((ps.filterMap valP).length : Nat)), v9, some (.ref F), some (.int ((((mergeP ps).take j).filterMap valP).length : Nat))] ∧ H' F = some (.lst xs) ∧ PcsAt H' xs (((mergeP ps).take j).map pp) ∧ Same H7 H') ⟨none, [], rfl, upd_same, .nil, fun c o e => Eg.upd_old e hF⟩ ?_ ?_ ?_
    · rintro j _ H8 _ ⟨v6, xs, rfl, _, _, s8⟩
      exact SqL.of (s8 _ _ h7p)
    rotate_left
    · rintro _ H8 ⟨v6, xs, rfl, h8F, px, s8⟩
      rw [List.length_map, L0l, List.take_length] at px
      walk_at "go"
      exact q F H8 h0F ⟨xs, h8F, px⟩ (s07.trans s8)
    rintro j x _ H8 hx ⟨v6, xs, rfl, h8F, px, s8⟩
    rw [List.getElem?_map] at hx
    obtain ⟨⟨t', c⟩, hz, rfl⟩ := Option.map_eq_some_iff.mp hx
    have ht := s8 _ _ (h7t _ (List.mem_of_getElem? hz))
    have hc : (mergeP ps)[j]? = some c := by rw [← hL2, List.getElem?_map, hz]; rfl
    obtain ⟨hlt, he⟩ := List.getElem?_eq_some_iff.mp hc
    have tk : (mergeP ps).take (j + 1) = (mergeP ps).take j ++ [c] := by rw [List.take_succ_eq_append_getElem hlt, he]
    have pxl := px.len
    rw [List.length_map, List.length_take] at pxl
    have keepF : ∀ {H9 : Hp} {ys : List V}, Same H8 H9 → Same H7 (upd H9 F (.lst ys)) := fun s9 c o e => Eg.upd_mut (fresh c o e) (s9 _ _ (s8 c o e))
    cases c with
    | inl l =>
      have ht : H8 t' = some (.tup [.str "say", .str (S l)]) := ht
      walk_at "go"
      rw [decide_eq_true (rfl : V.str "say" = V.str "say")]
      walk_at "go"
      have fm : ((mergeP ps).take (j + 1)).filterMap valP = ((mergeP ps).take j).filterMap valP := by
        rw [tk, List.filterMap_append]
        exact List.append_nil _
      refine ⟨some (.ref t'), xs ++ [.ref t'], by rw [fm]; rfl, upd_same, ?_, keepF (Same.refl _)⟩
      rw [tk, List.map_append]
      exact PcsAt.app (px.same fun b zs e => Eg.upd_mut (ne_of e h8F (fun z => nomatch z)) e) (PcsAt.one (p := pp (.inl l)) (Eg.upd_mut (ne_of ht h8F (fun z => nomatch z)) ht))
    | inr x =>
      obtain ⟨k, v⟩ := x
      have ht : H8 t' = some (.tup [.str "hole", .str (S k)]) := ht
      walk_at "go"
      rw [decide_eq_false (show ¬ V.str "hole" = V.str "say" from fun z => absurd (V.str.inj z) (by decide +kernel))]
      walk_at "go"
      rw [str_emp]
      have fin : ∀ (H9 : Hp) (tt : Addr), Same H8 H9 → H9 tt = some (.tup [.str "hole", .str (S k), v]) → H9 F = some (.lst xs) → upd H9 F (.lst (xs ++ [.ref tt])) F = some (.lst (xs ++ [.ref tt])) ∧ PcsAt (upd H9 F (.lst (xs ++ [.ref tt]))) (xs ++ [.ref tt]) (((mergeP ps).take (j + 1)).map pp) ∧ Same H7 (upd H9 F (.lst (xs ++ [.ref tt]))) := fun H9 tt s9 h9t h9F => by
        refine ⟨upd_same, ?_, keepF s9⟩
        rw [tk, List.map_append]
        exact PcsAt.app (px.same fun b zs e => Eg.upd_mut (ne_of (s9 _ _ e) h9F (fun z => nomatch z)) (s9 _ _ e)) (PcsAt.one (p := pp (.inr (k, v))) (Eg.upd_mut (ne_of h9t h9F (fun z => nomatch z)) h9t))
      have h8v := h7v.keep fun o e => s8 _ _ e
      have h8d := s8 _ _ h7d
      cases k with
      | nil =>
        rw [show decide (([] : List Nat) = []) = true from rfl]
        have hv : atI (ps.filterMap valP) (((((mergeP ps).take j).filterMap valP).length : Nat) : Int) = some v := by
          refine atI_nat ?_
          have e : (mergeP ps).filterMap valP = ((mergeP ps).take j).filterMap valP ++ v :: ((mergeP ps).drop (j + 1)).filterMap valP := by
            conv => lhs; rw [← List.take_append_drop j (mergeP ps), List.drop_eq_getElem_cons hlt, he]
            rw [List.filterMap_append]
            rfl
          rw [← mergeP_val, e, List.getElem?_append_right (Nat.le_refl _), Nat.sub_self]
          rfl
        walk_at "go"
        intro tt htt
        have e0 : ("" : Str) = S [] := by decide +kernel
        have h9t : upd H8 tt (.tup [.str "hole", .str "", v]) tt = some (.tup [.str "hole", .str (S []), v]) := by rw [upd_same, e0]
        have s9 : Same H8 (upd H8 tt (.tup [.str "hole", .str "", v])) := fun c o e => Eg.upd_old e htt
        have h9F := s9 _ _ h8F
        generalize upd H8 tt (.tup [.str "hole", .str "", v]) = H9 at h9t s9 h9F ⊢
        have fm : ((mergeP ps).take (j + 1)).filterMap valP = ((mergeP ps).take j).filterMap valP ++ [v] := by
          rw [tk, List.filterMap_append]
          rfl
        obtain ⟨g1, g2, g3⟩ := fin H9 tt s9 h9t h9F
        walk_at "go"
        refine ⟨some (.ref t'), xs ++ [.ref tt], ?_, g1, g2, g3⟩
        rw [fm, List.length_append]
        rfl
      | cons c k =>
        rw [show decide ((c :: k : List Nat) = []) = false from decide_eq_false (fun z => nomatch z)]
        have dg := Tw.dgetK (k := .inr (S (c :: k))) (.inl h8d)
        rw [tab.has c k v (merge_mem (List.mem_of_getElem? hc))] at dg
        walk_at "go"
        refine ⟨da, v, rfl, dg, ?_⟩
        walk_at "go"
        intro tt htt
        have h9t : upd H8 tt (.tup [.str "hole", .str (S (c :: k)), v]) tt = some (.tup [.str "hole", .str (S (c :: k)), v]) := upd_same
        have s9 : Same H8 (upd H8 tt (.tup [.str "hole", .str (S (c :: k)), v])) := fun c o e => Eg.upd_old e htt
        have h9F := s9 _ _ h8F
        generalize upd H8 tt (.tup [.str "hole", .str (S (c :: k)), v]) = H9 at h9t s9 h9F ⊢
        have fm : ((mergeP ps).take (j + 1)).filterMap valP = ((mergeP ps).take j).filterMap valP := by
          rw [tk, List.filterMap_append]
          exact List.append_nil _
        obtain ⟨g1, g2, g3⟩ := fin H9 tt s9 h9t h9F
        walk_at "go"
        refine ⟨some (.ref t'), xs ++ [.ref tt], ?_, g1, g2, g3⟩
        rw [fm]
        rfl
/-- what a body of Piece.__init__ is given where it is made of something made -/
def sp_Piece_made (CP CM : Addr) : Sp := fun vs H Q _ => ∃ (q dx a v d : Addr) (ps : List Pp) (lv : Str), vs = [.ref q, .ref a, .ref v, .ref d] ∧ H q = some (.ins CP dx []) ∧ MadeAt CM H a ps lv ∧ Few ps ∧
  ∀ H', PieceN CP H H' q (mergeP ps) lv → (∀ b o, H b = some o → b ≠ q → H' b = some o) → Q .non H'
/-- a piece made of a template with its values -/
def sp_Piece_text (CP : Addr) : Sp := fun vs H Q _ => ∃ (q dx v d : Addr) (ps : List Pp) (kvs : List (Key × V)), vs = [.ref q, .str (S (tmpl ps)), .ref v, .ref d] ∧ H q = some (.ins CP dx []) ∧ Po.SeqAt H v (ps.filterMap valP) ∧ H d = some (.dK kvs) ∧ Few ps ∧ (∀ p ∈ ps, PpOk p) ∧ TabP ps kvs ∧
  ∀ H', PieceN CP H H' q (mergeP ps) "term" → (∀ b o, H b = some o → b ≠ q → H' b = some o) → Q .non H'
def sp_Piece_init (CP CM : Addr) : Sp := fun vs H Q E => sp_Piece_made CP CM vs H Q E ∨ sp_Piece_text CP vs H Q E
theorem body_Piece_init (T : Txt K mg Z) (cdv : Value) (A : Around) (outer : List Env) (s : Shared) (H : Hp) (vs : List V) (Q : VK) (E : XK) (hr : Room 6 (A.deeper (PyProof.Rows.envOfC "Piece.__init__" (defScope s_Piece_init) s.heap.objs.size Z.a_Piece_init cdv))) (h : sp_Piece_init Z.c_Piece Z.c_Made vs H Q E) :
    ∃ t, PSs (cxOf CX0 P w K mg base N_Piece_init "Piece.__init__" (defScope s_Piece_init) Z.a_Piece_init cdv A outer s H E) (defBody s_Piece_init) t ∧ t { nx := fun _ H' => Q .non H', rt := Q } (start N_Piece_init vs) H := by
  have cP := T.cl_Piece
  have cM := T.cl_Made
  have n1 := T.n_Piece_cells
  have n2 := T.n_Piece_level
  have n3 := T.n_Piece_text
  have n4 := T.n_Made_cells
  have n5 := T.n_Made_level
  refine ⟨_, (C8.pss_cut (ps_if (pt_val (pe_callB call_isi (by rfl) T.u_isinstance (by decide +kernel) (pa_cons (pv 1) (pa_cons (pe_glob (v := .ref Z.c_Made) (by rfl) T.g_Made rfl) pa_nil))))
  (pss_cons (ps_fld (pv 0) (pe_call (ok_merged T) (hr.mono (by decide)) (by rfl) T.g_merged T.F_merged.kp T.b_merged .nil pass0 (pa_cons (pe_fld (pv 1) rfl) pa_nil)) rfl)
  (pss_one (ps_fld (pv 0) (pe_fld (pv 1) rfl) rfl)))
  (pss_cons (ps_fld (pv 0) (pe_call (ok_valued T) (hr.mono (by decide)) (by rfl) T.g_valued T.F_valued.kp T.b_valued .nil pass0 (pa_cons (pv 1) (pa_cons (pv 2) (pa_cons (pv 3) pa_nil)))) rfl)
  (pss_one (ps_fld (pv 0) pe_str rfl))))
  (pss_one (ps_fld (pv 0) (pe_call (ok_template_of T) (hr.mono (by decide)) (by rfl) T.g_template_of T.F_template_of.kp T.b_template_of .nil pass0 (pa_cons (pe_fld (pv 0) rfl) pa_nil)) rfl))), ?_⟩
  rcases h with h | h
  rotate_left
  · obtain ⟨qa, dx, va, da, ps, kvs, rfl, hq, hva, hda, few, pok, tab, q⟩ := h
    refine Eg.w_sig (σ := [some (.ref qa), some (.str (S (tmpl ps))), some (.ref va), some (.ref da)]) rfl ?_
    walk_at "go"
    refine ⟨fun σ' H' => ∃ c2, σ' = [some (.ref qa), some (.str (S (tmpl ps))), some (.ref va), some (.ref da)] ∧ H' qa = some (.ins Z.c_Piece dx (fldsM c2 "term")) ∧ CellsAt H' c2 (mergeP ps) ∧ c2 ≠ qa ∧ H c2 = none ∧ ∀ b o, H b = some o → b ≠ qa → H' b = some o, ?_, ?_⟩
    · walk_at "go"
      refine Eg.c_isi (.own _) (.base (.str _)) T.ki_Made_str ?_
      walk_at "go"
      refine ⟨va, da, ps, kvs, rfl, hva, hda, few, pok, tab, fun c2 H1 hc2 h1 s1 => ?_⟩
      obtain ⟨zs, h1z, hz⟩ := h1
      have h1q := s1 _ _ hq
      have nc2 : c2 ≠ qa := (ne_of_none hq hc2).symm
      walk_at "go"
      refine ⟨c2, rfl, by rw [upd_same]; rfl, ⟨zs, Eg.upd_mut nc2 (Eg.upd_mut nc2 h1z), hz.same fun b xs e => ?_⟩, nc2, hc2, fun b o e n => Eg.upd_mut n (Eg.upd_mut n (s1 _ _ e))⟩
      have nb : b ≠ qa := ne_of e h1q (fun z => nomatch z)
      exact Eg.upd_mut nb (Eg.upd_mut nb e)
    rintro _ H1 ⟨c2, rfl, h1q, h1c, nc, c20, kp⟩
    have lk1 : (fldsM c2 "term").lookup ("cells" : Str) = some (V.ref c2) := by rfl
    walk_at "go"
    refine ⟨c2, mergeP ps, rfl, h1c, few.merge, fun H2 s2 => ?_⟩
    have h2q := s2 _ _ h1q
    walk_at "go"
    refine q _ ⟨dx, c2, c20, by rw [upd_same]; rfl, ?_⟩ fun b o e n => Eg.upd_mut n (s2 _ _ (kp b o e n))
    obtain ⟨zs, h1z, hz⟩ := h1c
    refine ⟨zs, Eg.upd_mut nc (s2 _ _ h1z), hz.same fun b xs e => ?_⟩
    exact Eg.upd_mut (ne_of (s2 _ _ e) h2q (fun z => nomatch z)) (s2 _ _ e)
  obtain ⟨qa, dx, a, va, da, ps, lv, rfl, hq, hm, few, q⟩ := h
  obtain ⟨dm, ca, ha, ys, hc, py⟩ := id hm
  refine Eg.w_sig (σ := [some (.ref qa), some (.ref a), some (.ref va), some (.ref da)]) rfl ?_
  walk_at "go"
  refine ⟨fun σ' H' => ∃ c2, σ' = [some (.ref qa), some (.ref a), some (.ref va), some (.ref da)] ∧ H' qa = some (.ins Z.c_Piece dx (fldsM c2 lv)) ∧ CellsAt H' c2 (mergeP ps) ∧ c2 ≠ qa ∧ H c2 = none ∧ ∀ b o, H b = some o → b ≠ qa → H' b = some o, ?_, ?_⟩
  · walk_at "go"
    refine Eg.c_isi (.own _) (.base (T.i_Made ha)) (b := true) (by unfold PySem.W.kitOne; rw [if_pos (beq_self_eq_true _)]) ?_
    walk_at "go"
    have f2 := few.2
    have f1 := few.1
    have sz2 := sz_pp ps
    refine ⟨ca, ys, ps.map pp, rfl, hc, py, (fun p hp => by obtain ⟨x, _, rfl⟩ := List.mem_map.mp hp; exact pp_ok x), by rw [List.length_map]; omega, by omega, fun c2 zs H1 hc2 h1 hz s1 => ?_⟩
    have h1q := s1 _ _ hq
    have h1a := s1 _ _ ha
    have nqa : qa ≠ a := fun z => by
      rw [z] at hq
      rw [hq] at ha
      injection Option.some.inj ha with _ _ e
      cases e
    have nc2 : c2 ≠ qa := (ne_of_none hq hc2).symm
    rw [merge_pp] at hz
    have lkl : (fldsM ca lv).lookup ("level" : Str) = some (V.str lv) := by rfl
    walk_at "go"
    refine ⟨c2, rfl, by rw [upd_same]; rfl, ⟨zs, Eg.upd_mut nc2 (Eg.upd_mut nc2 h1), hz.same fun b xs e => ?_⟩, nc2, hc2, fun b o e n => Eg.upd_mut n (Eg.upd_mut n (s1 _ _ e))⟩
    have nb : b ≠ qa := ne_of e h1q (fun z => nomatch z)
    exact Eg.upd_mut nb (Eg.upd_mut nb e)
  rintro _ H1 ⟨c2, rfl, h1q, h1c, nc, c20, kp⟩
  have lk1 : (fldsM c2 lv).lookup ("cells" : Str) = some (V.ref c2) := by rfl
  walk_at "go"
  refine ⟨c2, mergeP ps, rfl, h1c, few.merge, fun H2 s2 => ?_⟩
  have h2q := s2 _ _ h1q
  walk_at "go"
  refine q _ ⟨dx, c2, c20, by rw [upd_same]; rfl, ?_⟩ fun b o e n => Eg.upd_mut n (s2 _ _ (kp b o e n))
  obtain ⟨zs, h1z, hz⟩ := h1c
  refine ⟨zs, Eg.upd_mut nc (s2 _ _ h1z), hz.same fun b xs e => ?_⟩
  exact Eg.upd_mut (ne_of (s2 _ _ e) h2q (fun z => nomatch z)) (s2 _ _ e)
theorem ok_Piece_init (T : Txt K mg Z) : FnR P w K mg base CX0 7 Z.a_Piece_init (Pz.SpStar (.str "") (sp_Piece_init Z.c_Piece Z.c_Made)) :=
  T.F_Piece_init.ok sc_Piece_init StX.cxUp_none (body_Piece_init T)
end
end LW
end

section
local macro_rules | `(tactic| walk_at "tx") => `(tactic| first
  | with_reducible refine Pz.w_star ?_
  | ((with_reducible refine' Pz.c_starL ?hs ?_); (case hs => walk_at "hp"))
  | with_reducible refine Pz.w_mkR ?_
  | ((with_reducible refine' Pz.w_mkVar ?hs ?_); (case hs => exact rfl)))
namespace LW
open PySem L2 SX Tx Tl
/-! pieces made -/
def sp_Piece_of (CP : Addr) : Sp := fun vs H Q _ => ∃ (va da : Addr) (ps : List Pp) (kvs : List (Key × V)), vs = [.ref CP, .str (S (tmpl ps)), .ref va, .ref da] ∧ Po.SeqAt H va (ps.filterMap valP) ∧ H da = some (.dK kvs) ∧ Few ps ∧ (∀ p ∈ ps, PpOk p) ∧ TabP ps kvs ∧
  ∀ (x : Addr) (H' : Hp), H x = none → PieceN CP H H' x (mergeP ps) "term" → Same H H' → Q (.ref x) H'
/-- C(made) -/
theorem mk_piece {CP CM : Addr} {H : Hp} {Q : VK} {a : Addr} {ps : List Pp} {lv : Str} (hm : MadeAt CM H a ps lv) (few : Few ps) (q : ∀ (x : Addr) (H' : Hp), H x = none → PieceN CP H H' x (mergeP ps) lv → Same H H' → Q (.ref x) H') :
    Pz.mkRL CP (Pz.SpStar (.str "") (sp_Piece_init CP CM)) E0 Q [.ref a] H := by
  intro x dx hx hdx hne
  refine ⟨.ref x, .ref a, [], .inl rfl, Nat.zero_le _, fun p d hp hd hpd => ?_⟩
  have sx : Same H (upd (upd H dx (.own x)) x (.ins CP dx [])) := fun c o e => Eg.upd_mut (ne_of_none e hx) (Eg.upd_old e hdx)
  have s1 : Same (upd (upd H dx (.own x)) x (.ins CP dx [])) (upd (upd (upd (upd H dx (.own x)) x (.ins CP dx [])) p (.tup [])) d (.dK [])) := fun c o e => Eg.upd_mut (ne_of_none e hd) (Eg.upd_old e hp)
  refine .inl ⟨x, dx, a, p, d, ps, lv, rfl, s1 _ _ upd_same, hm.keep (sx.trans s1), few, fun H' hP kp => ⟨rfl, q x H' hx (hP.back (sx.trans s1)) fun c o e => kp c o (s1 _ _ (sx _ _ e)) (ne_of_none e hx)⟩⟩
/-- Made(cells, level) -/
theorem mk_made {CM : Addr} {H : Hp} {Q : VK} {a : Addr} {ps : List Pp} {lv : Str} (hc : CellsAt H a ps) (few : ps.length < 20000) (q : ∀ (x : Addr) (H' : Hp), H x = none → MadeAt CM H' x ps lv → Same H H' → Q (.ref x) H') : Eg.makeLeaf CM (sp_Made_init CM) [] E0 Q [.ref a, .str lv] H := by
  intro x dx hx hdx hne
  obtain ⟨ys, ha, py⟩ := hc
  have yl := py.len
  rw [List.length_map] at yl
  have sx : Same H (upd (upd H dx (.own x)) x (.ins CM dx [])) := fun c o e => Eg.upd_mut (ne_of_none e hx) (Eg.upd_old e hdx)
  refine ⟨x, dx, a, ys, lv, rfl, upd_same, sx _ _ ha, by omega, fun ca H' hca hm hl kp => ⟨rfl, ?_⟩⟩
  have s2 : Same H H' := fun c o e => kp c o (sx _ _ e) (ne_of_none e hx)
  exact q x H' hx ⟨dx, ca, hm, ys, hl, py.same fun b zs e => s2 _ _ e⟩ s2
section
variable {P : Program} {w : World} {K : PySem.W.Frag} {mg : Str → Option Value} {base : Heap} {Z : Ad}
def sp_Piece_empty (CP : Addr) : Sp := fun vs H Q _ => vs = [.ref CP] ∧ ∀ (x : Addr) (H' : Hp), H x = none → PieceN CP H H' x [] "term" → Same H H' → Q (.ref x) H'
theorem ok_Piece_of (T : Txt K mg Z) : FnOk P w K mg base CX0 9 Z.a_Piece_of Z.d_Piece_of ["cls", "text", "values", "table"] (sp_Piece_of Z.c_Piece) := by
  refine T.F_Piece_of.ok sc_Piece_of (fun vs H Q E h => ?_) (fun cdv A outer s H vs Q E hr h => ?_)
  · obtain ⟨va, da, ps, kvs, rfl, _⟩ := h
    rfl
  · obtain ⟨va, da, ps, kvs, rfl, hva, hda, few, pok, tab, q⟩ := h
    refine ⟨_, (pss_one (ps_ret (Pz.pe_mkVar (i := 0) T.mk_Piece (ok_Piece_init T) (hr.mono (by decide)) rfl (Or.inl rfl) pass0 (pa_cons (pe_make T.mk_Made (ok_Made_init T) (hr.mono (by decide)) (by rfl) T.g_Made T.b_Made_init .nil pass0 (pa_cons (pe_call (ok_valued T) (hr.mono (by decide)) (by rfl) T.g_valued T.F_valued.kp T.b_valued .nil pass0 (pa_cons (pv 1) (pa_cons (pv 2) (pa_cons (pv 3) pa_nil)))) (pa_cons pe_str pa_nil))) pa_nil)))), ?_⟩
    refine Eg.w_sig (σ := [some (.ref Z.c_Piece), some (.str (S (tmpl ps))), some (.ref va), some (.ref da)]) rfl ?_
    walk_at "go"
    refine ⟨va, da, ps, kvs, rfl, hva, hda, few, pok, tab, fun r H1 hr0 h1 s1 => ?_⟩
    walk_at "go"
    refine mk_made h1 few.merge.1 fun m H2 hm0 h2 s2 => ?_
    walk_at "go"
    refine mk_piece h2 few.merge fun x H3 hx h3 s3 => ?_
    rw [mergeP_idem] at h3
    exact q x H3 ((s1.trans s2).free hx) (h3.back (s1.trans s2)) ((s1.trans s2).trans s3)
end
end LW
end

section
local macro_rules | `(tactic| walk_at "tx") => `(tactic| first
  | with_reducible refine Pz.w_star ?_
  | ((with_reducible refine' Pz.c_starL ?hs ?_); (case hs => walk_at "hp"))
  | with_reducible refine Pz.w_mkR ?_
  | ((with_reducible refine' Pz.w_mkVar ?hs ?_); (case hs => exact rfl))
  | with_reducible refine Mk.w_prop ?_
  | with_reducible refine Mk.w_methK ?_
  | ((with_reducible refine' Po.c_ownS ?hs ?_); (case hs => walk_at "hp"))
  | ((with_reducible refine' Po.c_ownSR ?hs ?_); (case hs => walk_at "hp"))
  | ((with_reducible refine' Po.c_ownBool ?hs ?_); (case hs => walk_at "hp"))
  | ((with_reducible refine' Po.c_ownSet ?hs ?_); (case hs => walk_at "hp"))
  | with_reducible refine Po.w_tru ?_
  | ((with_reducible refine' Po.c_truL ?hs ?_); (case hs => walk_at "hp"))
  | ((with_reducible refine' Po.c_boolL ?hs ?_); (case hs => walk_at "sq"))
  | ((with_reducible refine' Ow.c_ownLen ?hs ?_); (case hs => walk_at "hp"))
  | ((with_reducible refine' Ow.c_own2 ?hs ?hz ?_); (case hs => walk_at "hp"); (case hz => walk_at "hp")))
namespace LW
open PySem L2 SX Tx Tl
/-! texts and values as data; what the law merges -/
section
variable {σ : L2.St} {H : Hp} {K : PySem.W.Frag} {a : Addr} {j : Nat} {ti te : TE} {Q : VK}
end
inductive TV : V → Prop
  | int (i : Int) : (if i < 0 then -i else i) < most → TV (.int i)
  | str (l : List Nat) : (∀ c ∈ l, 32 ≤ c ∧ c ≤ 126) → TV (.str (S l))
theorem TV.of {v : V} (h : DV v) : TV v := by
  cases h with
  | int i hi => exact .int i hi
  | str l _ h => exact .str l h
def TP (p : Pc) : Prop := ∀ v ∈ p.vs, TV v
theorem say_S : ("say" : Str) = S [115, 97, 121] := by decide +kernel
theorem TP.say {l : List Nat} (h : ∀ c ∈ l, 32 ≤ c ∧ c ≤ 126) : TP (.say l) := fun v hv => by
  have hv : v ∈ [V.str "say", V.str (S l)] := hv
  rcases List.mem_cons.mp hv with rfl | hv
  · rw [say_S]
    exact .str _ (by decide)
  · rw [List.mem_singleton.mp hv]
    exact .str l h
theorem lit_rng {c : Nat} (h : litB c = true) : 32 ≤ c ∧ c ≤ 126 := by
  unfold litB at h
  simp only [Bool.and_eq_true, decide_eq_true_eq] at h
  exact h.1.1.1
def dV : V → PyData
  | .int i => .int i
  | .str s => .str s
  | _ => .none
def dPc (p : Pc) : PyData := .tuple (p.vs.map dV)
def dPs (ps : List Pc) : PyData := .tuple (ps.map dPc)
section
variable {K : PySem.W.Frag} {H : Hp}
theorem dp_tv {v : V} (h : TV v) : Dp K H v (dV v) := by
  cases h with
  | int i _ => exact .int i
  | str l _ => exact .str _
theorem dp_tvs : ∀ {vs : List V}, (∀ v ∈ vs, TV v) → DpAll K H vs (vs.map dV)
  | [], _ => .nil
  | v :: r, h => .cons (dp_tv (h v List.mem_cons_self)) (dp_tvs fun x hx => h x (List.mem_cons_of_mem _ hx))
theorem dp_pcs : ∀ {ys : List V} {ps : List Pc}, PcsAt H ys ps → (∀ p ∈ ps, TP p) → DpAll K H ys (ps.map dPc)
  | _, _, .nil, _ => .nil
  | _, _, .cons ⟨t, e, ht⟩ r, h => by
    subst e
    exact .cons (.tup (SqT.of ht) (dp_tvs (h _ List.mem_cons_self))) (dp_pcs r fun x hx => h x (List.mem_cons_of_mem _ hx))
theorem dp_fill {p : Addr} {ys : List V} {ps : List Pc} (hp : H p = some (.tup ys)) (py : PcsAt H ys ps) (h : ∀ q ∈ ps, TP q) : Dp K H (.ref p) (dPs ps) := .tup (SqT.of hp) (dp_pcs py h)
end
theorem lay_tv {v : V} (h : TV v) : (dV v).canLay0 = true := by
  cases h with
  | int i _ => rfl
  | str l h =>
    show PySem.PyData.strOk (S l) = true
    refine Array.all_eq_true_iff_forall_mem.mpr fun c hc => ?_
    have := h c (Array.mem_toList_iff.mpr hc)
    exact decide_eq_true (by omega)
theorem lay_all : ∀ {ds : List PyData}, (∀ d ∈ ds, d.canLay0 = true) → PyData.canLayAll0 ds = true
  | [], _ => rfl
  | d :: r, h => by
    rw [PyData.canLayAll0, h d List.mem_cons_self, lay_all fun x hx => h x (List.mem_cons_of_mem _ hx)]
    rfl
theorem lay_fill {ps : List Pc} (h : ∀ p ∈ ps, TP p) : (dPs ps).canLay0 = true := by
  unfold dPs
  rw [PyData.canLay0]
  refine lay_all fun d hd => ?_
  obtain ⟨p, hp, rfl⟩ := List.mem_map.mp hd
  unfold dPc
  rw [PyData.canLay0]
  refine lay_all fun d hd => ?_
  obtain ⟨v, hv, rfl⟩ := List.mem_map.mp hd
  exact lay_tv (h p hp v hv)
theorem shape_fill {ps : List Pc} (h : ∀ p ∈ ps, TP p) : PySem.SeqAt.shaped (dPs ps) = true := by
  unfold PySem.SeqAt.shaped
  rw [Bool.and_eq_true, decide_eq_true_iff]
  refine ⟨lay_fill h, ?_⟩
  have dv : ∀ v, (dV v).depth = 0 := fun v => by cases v <;> rfl
  have d1 : ∀ {n : Nat} (ds : List PyData), (∀ d ∈ ds, d.depth ≤ n) → PyData.depthAll ds ≤ n := by
    intro n ds
    induction ds with
    | nil => exact fun _ => Nat.zero_le _
    | cons d r ih =>
      intro h
      rw [PyData.depthAll]
      exact Nat.max_le.mpr ⟨h d List.mem_cons_self, ih fun x hx => h x (List.mem_cons_of_mem _ hx)⟩
  have d2 := d1 (n := 1) (ps.map dPc) fun d hd => by
    obtain ⟨p, _, rfl⟩ := List.mem_map.mp hd
    have := d1 (n := 0) (p.vs.map dV) fun d hd => by
      obtain ⟨v, _, rfl⟩ := List.mem_map.mp hd
      exact Nat.le_of_eq (dv v)
    unfold dPc
    rw [PyData.depth]
    omega
  unfold dPs
  rw [PyData.depth]
  omega
def empD : PyData := .tuple [.str "say", .str ""]
theorem emp_pc : dPc (.say []) = empD := by
  show PyData.tuple [.str "say", .str (S [])] = .tuple [.str "say", .str ""]
  rw [show ("" : Str) = S [] by decide +kernel]
theorem shape_pc {p : Pc} (h : TP p) : PySem.SeqAt.shaped (dPc p) = true := by
  unfold PySem.SeqAt.shaped
  rw [Bool.and_eq_true, decide_eq_true_iff]
  refine ⟨?_, ?_⟩
  · unfold dPc
    rw [PyData.canLay0]
    refine lay_all fun d hd => ?_
    obtain ⟨v, hv, rfl⟩ := List.mem_map.mp hd
    exact lay_tv (h v hv)
  · have dv : ∀ v, (dV v).depth = 0 := fun v => by cases v <;> rfl
    have : ∀ vs : List V, PyData.depthAll (vs.map dV) = 0 := by
      intro vs
      induction vs with
      | nil => rfl
      | cons v r ih =>
        rw [List.map_cons, PyData.depthAll, dv, ih]
        rfl
    unfold dPc
    rw [PyData.depth, this]
    decide
theorem eqv_oth {tg : Str} {zs : List V} (h : tg ≠ "say") : PyData.eqv (dPc (.oth tg zs)) empD = false := by
  show PyData.eqv (.tuple (.str tg :: zs.map dV)) (.tuple [.str "say", .str ""]) = false
  rw [PyData.eqv, PyData.eqvAll, PyData.eqv, beq_false_of_ne h, Bool.false_and]
theorem eqv_say (l : List Nat) : PyData.eqv (dPc (.say l)) empD = decide (l = []) := by
  show PyData.eqv (.tuple [.str "say", .str (S l)]) (.tuple [.str "say", .str ""]) = _
  rw [show ("" : Str) = S [] by decide +kernel]
  simp only [PyData.eqv, PyData.eqvAll, beq_self_eq_true, Bool.true_and, Bool.and_true]
  by_cases e : l = []
  · rw [e, decide_eq_true rfl, beq_self_eq_true]
  · rw [decide_eq_false e, beq_false_of_ne fun z => e (S_inj z)]
theorem c_neEmp {K : PySem.W.Frag} {H : Hp} {t p : Addr} {q : Pc} {Q : VK} (ht : H t = some (.tup q.vs)) (hp : H p = some (.tup [.str "say", .str ""])) (h : TP q) (k : Q (.bl (!PyData.eqv (dPc q) empD)) H) : rNeD K (.ref t) (.ref p) H Q :=
  ⟨dPc q, empD, .tup (SqT.of ht) (dp_tvs h), .tup (SqT.of hp) (.cons (.str _) (.cons (.str _) .nil)), shape_pc h, by rw [← emp_pc]; exact shape_pc (TP.say fun c hc => nomatch hc), k⟩
def sp_l_merged : Sp := fun vs H Q _ => ∃ (a : Addr) (xs : List V) (ps : List Pc), vs = [.ref a] ∧ H a = some (.lst xs) ∧ PcsAt H xs ps ∧ (∀ p ∈ ps, p.ok) ∧ (∀ p ∈ ps, TP p) ∧ ps.length < 90000 ∧ sz ps < 50000 ∧
  ∀ (p : Addr) (ys : List V) (H' : Hp), H p = none → H' p = some (.lst ys) → PcsAt H' ys (merge ps) → Same H H' → Q (.ref p) H'
section
variable {P : Program} {w : World} {K : PySem.W.Frag} {mg : Str → Option Value} {base : Heap} {Z : Ad}
set_option maxHeartbeats 8000000 in
theorem ok_l_merged (T : Txt K mg Z) : FnOk P w K mg base CX0 3 Z.a_l_merged Z.d_l_merged ["_law_parts_here"] sp_l_merged := by
  refine T.F_l_merged.ok sc_l_merged (fun vs H Q E h => ?_) (fun cdv A outer s H vs Q E hr h => ?_)
  · obtain ⟨a, xs, ps, rfl, _⟩ := h
    rfl
  · obtain ⟨a, xs, ps, rfl, ha, px, pok, ptp, pl, pz, q⟩ := h
    have nd := sc_l_merged.nd
    have hu := hu_of hr
    refine ⟨_, (pss_cons (ps_set (i := 1) nd rfl (Or.inl rfl) (pe_lst pa_nil))
  (pss_cons (ps_for PassesOwn.never rfl (pi_list (pv 0)) (pg_name (i := 2) nd rfl (Or.inl rfl))
  (pss_one (ps_if (PW.pt (pw_and (pt_cmpR op_eq (pe_ix ix_tup (pv 2) pe_int (fun _ _ => rfl)) pe_str (nomark _)) (pw_and (pt_cmpR (Tw.op_neE (Nat.lt_of_succ_lt hu)) (pv 1) (pe_lst pa_nil) (nomark _)) (pw_and1 (pt_cmpR op_eq (pe_ix ix_tup (pe_ix ix_list (pv 1) (pe_un un_neg pe_int) (fun _ _ => rfl)) pe_int (fun _ _ => rfl)) pe_str (nomark _))))))
  (pss_cons (ps_set (i := 3) nd rfl (Or.inl rfl) (pe_bm0 PySem.F.plainAttrs_list PySem.F.slot_list_pop PySem.F.type_list_pop mt_pop (pv 1)))
  (pss_one (ps_expr (pe_bm PySem.F.plainAttrs_list PySem.F.slot_list_append PySem.F.type_list_append mt_append (pv 1) (pa_cons (pe_tup (pa_cons pe_str (pa_cons (pe_op Es.op_addS (pe_ix ix_tup (pv 3) pe_int (fun _ _ => rfl)) (pe_ix ix_tup (pv 2) pe_int (fun _ _ => rfl))) pa_nil))) pa_nil)))))
  (pss_one (ps_if (pt_cmpR (op_neD hr.units) (pv 2) (pe_tup (pa_cons pe_str (pa_cons pe_str pa_nil))) (nomark _))
  (pss_one (ps_expr (pe_bm PySem.F.plainAttrs_list PySem.F.slot_list_append PySem.F.type_list_append mt_append (pv 1) (pa_cons (pv 2) pa_nil))))
  pss_nil)))))
  (pss_one (ps_ret (pv 1))))), ?_⟩
    refine Eg.w_sig (σ := [some (.ref a), none, none, none]) rfl ?_
    walk_at "go"
    intro f hf
    walk_at "go"
    have len := px.len
    have hfa : f ≠ a := (ne_of_none ha hf).symm
    refine for_list (xs := xs) (fun j σ' H' => ∃ (v2 v3 : Option V) (ys : List V), σ' = [some (.ref a), some (.ref f), v2, v3] ∧ H' f = some (.lst ys) ∧ PcsAt H' ys (merge (ps.take j)) ∧ Same H H') ⟨none, none, [], rfl, upd_same, .nil, fun c o e => Eg.upd_old e hf⟩ ?_ ?_ ?_
    · rintro j _ H1 _ ⟨v2, v3, ys, rfl, _, _, s1⟩
      exact SqL.of (s1 _ _ ha)
    · rintro j x _ H1 hx ⟨v2, v3, ys, rfl, h1f, py, s1⟩
      obtain ⟨p, t, hp, rfl, ht0⟩ := px.get hx
      have ht := s1 _ _ ht0
      have hpo := pok p (List.mem_of_getElem? hp)
      obtain ⟨hlt, he⟩ := List.getElem?_eq_some_iff.mp hp
      have tk : ps.take (j + 1) = ps.take j ++ [p] := by rw [List.take_succ_eq_append_getElem hlt, he]
      have szz := sz_get hp
      have yl := py.len
      have ml := merge_len (ps.take j)
      rw [List.length_take] at ml
      have fresh : ∀ c o, H c = some o → c ≠ f := fun c o e => ne_of_none e hf
      cases p with
      | oth tg zs =>
        have ht : H1 t = some (.tup (.str tg :: zs)) := ht
        have hne : decide (V.str tg = V.str "say") = false := decide_eq_false fun z => hpo.1 (V.str.inj z)
        walk_at "go"
        rw [hne]
        walk_at "go"
        intro e0 he0
        have h2e : upd H1 e0 (.tup [.str "say", .str ""]) e0 = some (.tup [.str "say", .str ""]) := upd_same
        have s2 : Same H1 (upd H1 e0 (.tup [.str "say", .str ""])) := fun b o e => Eg.upd_old e he0
        generalize upd H1 e0 (.tup [.str "say", .str ""]) = H2 at s2 h2e ⊢
        have h2f := s2 _ _ h1f
        have h2t := s2 _ _ ht
        have py2 := py.same fun b ys e => s2 _ _ e
        have s02 := s1.trans s2
        refine c_neEmp (q := .oth tg zs) h2t h2e (ptp _ (List.mem_of_getElem? hp)) ?_
        rw [eqv_oth hpo.1]
        walk_at "go"
        have tf : t ≠ f := ne_of h2t h2f (fun z => nomatch z)
        refine ⟨_, _, _, rfl, upd_same, ?_, fun c o e => Eg.upd_mut (fresh c o e) (s02 c o e)⟩
        rw [tk, merge_snoc]
        exact PcsAt.app (py2.same fun b ys e => Eg.upd_mut (ne_of e h2f (fun z => nomatch z)) e) (PcsAt.one (p := .oth tg zs) (Eg.upd_mut tf h2t))
      | say l =>
        have ht : H1 t = some (.tup [.str "say", .str (S l)]) := ht
        have hne : decide (V.str "say" = V.str "say") = true := decide_eq_true rfl
        have tf : t ≠ f := ne_of ht h1f (fun z => nomatch z)
        have szl : l.length ≤ sz ps := Nat.le_trans (Nat.le_add_left _ _) szz
        walk_at "go"
        rw [hne]
        walk_at "go"
        intro n0 hn0
        have h2n : upd H1 n0 (.lst []) n0 = some (.lst []) := upd_same
        have s2 : Same H1 (upd H1 n0 (.lst [])) := fun b o e => Eg.upd_old e hn0
        generalize upd H1 n0 (.lst []) = H2 at s2 h2n ⊢
        have h2f := s2 _ _ h1f
        have h2t := s2 _ _ ht
        have py2 := py.same fun b ys e => s2 _ _ e
        have s02 := s1.trans s2
        walk_at "go"
        cases hlast : (merge (ps.take j)).getLast? with
        | none =>
          have hno : ∀ m, (merge (ps.take j)).getLast? ≠ some (.say m) := by rw [hlast]; exact fun _ z => nomatch z
          have me : merge (ps.take j) = [] := List.getLast?_eq_none_iff.mp hlast
          have ye : ys = [] := List.eq_nil_of_length_eq_zero (by rw [yl, me]; rfl)
          rw [show ys.isEmpty = true by rw [ye]; rfl]
          walk_at "go"
          intro e0 he0
          have h3e : upd H2 e0 (.tup [.str "say", .str ""]) e0 = some (.tup [.str "say", .str ""]) := upd_same
          have s3 : Same H2 (upd H2 e0 (.tup [.str "say", .str ""])) := fun b o e => Eg.upd_old e he0
          generalize upd H2 e0 (.tup [.str "say", .str ""]) = H3 at s3 h3e ⊢
          have h3f := s3 _ _ h2f
          have h3t := s3 _ _ h2t
          have py3 := py2.same fun b ys e => s3 _ _ e
          have s03 := s02.trans s3
          refine c_neEmp (q := .say l) h3t h3e (ptp _ (List.mem_of_getElem? hp)) ?_
          rw [eqv_say]
          by_cases hl : l = []
          · rw [decide_eq_true hl]
            walk_at "go"
            refine ⟨_, _, _, rfl, h3f, ?_, s03⟩
            rw [tk, merge_snoc, hl]
            exact py3
          · rw [decide_eq_false hl]
            walk_at "go"
            refine ⟨_, _, _, rfl, upd_same, ?_, fun c o e => Eg.upd_mut (fresh c o e) (s03 c o e)⟩
            rw [tk, merge_snoc, put_say_new hl hno]
            exact PcsAt.app (py3.same fun b ys e => Eg.upd_mut (ne_of e h3f (fun z => nomatch z)) e) (PcsAt.one (p := .say l) (Eg.upd_mut tf h3t))
        | some q0 =>
          obtain ⟨t0, hl0, ht0⟩ := py2.last hlast
          have yne : ys ≠ [] := fun z => by rw [z] at hl0; cases hl0
          rw [show ys.isEmpty = false by cases ys with | nil => exact absurd rfl yne | cons _ _ => rfl]
          have pos : 0 < ys.length := List.length_pos_iff.mpr yne
          have mok := merge_ok (ps := ps.take j) (fun z hz => pok z (List.mem_of_mem_take hz)) q0 (List.mem_of_getLast? hlast)
          cases q0 with
          | oth tg zs =>
            have ht0 : H2 t0 = some (.tup (.str tg :: zs)) := ht0
            have hne : decide (V.str tg = V.str "say") = false := decide_eq_false fun z => mok.1 (V.str.inj z)
            have hno : ∀ m, (merge (ps.take j)).getLast? ≠ some (.say m) := by rw [hlast]; exact fun _ z => nomatch z
            walk_at "go"
            rw [hne]
            walk_at "go"
            intro e0 he0
            have h3e : upd H2 e0 (.tup [.str "say", .str ""]) e0 = some (.tup [.str "say", .str ""]) := upd_same
            have s3 : Same H2 (upd H2 e0 (.tup [.str "say", .str ""])) := fun b o e => Eg.upd_old e he0
            generalize upd H2 e0 (.tup [.str "say", .str ""]) = H3 at s3 h3e ⊢
            have h3f := s3 _ _ h2f
            have h3t := s3 _ _ h2t
            have py3 := py2.same fun b ys e => s3 _ _ e
            have s03 := s02.trans s3
            refine c_neEmp (q := .say l) h3t h3e (ptp _ (List.mem_of_getElem? hp)) ?_
            rw [eqv_say]
            by_cases hl : l = []
            · rw [decide_eq_true hl]
              walk_at "go"
              refine ⟨_, _, _, rfl, h3f, ?_, s03⟩
              rw [tk, merge_snoc, hl]
              exact py3
            · rw [decide_eq_false hl]
              walk_at "go"
              refine ⟨_, _, _, rfl, upd_same, ?_, fun c o e => Eg.upd_mut (fresh c o e) (s03 c o e)⟩
              rw [tk, merge_snoc, put_say_new hl hno]
              exact PcsAt.app (py3.same fun b ys e => Eg.upd_mut (ne_of e h3f (fun z => nomatch z)) e) (PcsAt.one (p := .say l) (Eg.upd_mut tf h3t))
          | say m =>
            have ht0 : H2 t0 = some (.tup [.str "say", .str (S m)]) := ht0
            have hm : m.length ≤ sz (ps.take j) := by
              have := sz_last hlast
              rw [sz_merge] at this
              exact this
            walk_at "go"
            rw [hne]
            walk_at "go"
            have t0f : t0 ≠ f := ne_of ht0 h2f (fun z => nomatch z)
            refine ⟨f, ys, .ref t0, rfl, rfl, h2f, by rw [← List.getLast?_eq_getElem?]; exact hl0, ?_⟩
            have h3f : upd H2 f (.lst ys.dropLast) f = some (.lst ys.dropLast) := upd_same
            have h3t : upd H2 f (.lst ys.dropLast) t = some (.tup [.str "say", .str (S l)]) := Eg.upd_mut tf h2t
            have h3t0 : upd H2 f (.lst ys.dropLast) t0 = some (.tup [.str "say", .str (S m)]) := Eg.upd_mut t0f ht0
            have py3 := py2.dropLast.same fun b zs e => (Eg.upd_mut (ne_of e h2f (fun z => nomatch z)) e : upd H2 f (.lst ys.dropLast) b = _)
            have s03 : Same H (upd H2 f (.lst ys.dropLast)) := fun c o e => Eg.upd_mut (fresh c o e) (s02 c o e)
            generalize upd H2 f (.lst ys.dropLast) = H3 at h3f h3t h3t0 py3 s03 ⊢
            have dl : ys.dropLast.length ≤ ys.length := by rw [List.length_dropLast]; omega
            walk_at "go"
            intro t1 ht1
            have h4f : upd H3 t1 (.tup [.str "say", .str (S (m ++ l))]) f = some (.lst ys.dropLast) := Eg.upd_old h3f ht1
            have h4t : upd H3 t1 (.tup [.str "say", .str (S (m ++ l))]) t1 = some (.tup [.str "say", .str (S (m ++ l))]) := upd_same
            have py4 := py3.same fun b zs e => (Eg.upd_old e ht1 : upd H3 t1 (.tup [.str "say", .str (S (m ++ l))]) b = _)
            have s04 : Same H (upd H3 t1 (.tup [.str "say", .str (S (m ++ l))])) := fun c o e => Eg.upd_old (s03 c o e) ht1
            generalize upd H3 t1 (.tup [.str "say", .str (S (m ++ l))]) = H4 at h4f h4t py4 s04 ⊢
            have t1f : t1 ≠ f := ne_of h4t h4f (fun z => nomatch z)
            walk_at "go"
            refine ⟨_, _, _, rfl, upd_same, ?_, fun c o e => Eg.upd_mut (fresh c o e) (s04 c o e)⟩
            have pe : put (merge (ps.take j)) (.say l) = (merge (ps.take j)).dropLast ++ [.say (m ++ l)] := by
              by_cases hl : l = []
              · rw [hl, put_say_emp, List.append_nil]
                exact last_split hlast
              · exact put_say_say hl hlast
            rw [tk, merge_snoc, pe]
            exact PcsAt.app (py4.same fun b ys e => Eg.upd_mut (ne_of e h4f (fun z => nomatch z)) e) (PcsAt.one (p := .say (m ++ l)) (Eg.upd_mut t1f h4t))
    · rintro _ H1 ⟨v2, v3, ys, rfl, h1f, py, s1⟩
      rw [List.take_of_length_le (by omega)] at py
      walk_at "go"
      exact q f ys H1 hf h1f py s1
end
end LW
end

section
local macro_rules | `(tactic| walk_at "tx") => `(tactic| first
  | with_reducible refine Pz.w_star ?_
  | ((with_reducible refine' Pz.c_starL ?hs ?_); (case hs => walk_at "hp"))
  | with_reducible refine Pz.w_mkR ?_
  | ((with_reducible refine' Pz.w_mkVar ?hs ?_); (case hs => exact rfl))
  | with_reducible refine Mk.w_prop ?_
  | with_reducible refine Mk.w_methK ?_
  | ((with_reducible refine' Po.c_ownS ?hs ?_); (case hs => walk_at "hp"))
  | ((with_reducible refine' Po.c_ownSR ?hs ?_); (case hs => walk_at "hp"))
  | ((with_reducible refine' Po.c_ownBool ?hs ?_); (case hs => walk_at "hp"))
  | ((with_reducible refine' Po.c_ownSet ?hs ?_); (case hs => walk_at "hp"))
  | with_reducible refine Gn.w_gThen ?_
  | with_reducible refine Gn.w_gFor ?_
  | with_reducible refine Gn.w_gIf ?_
  | with_reducible refine Gn.w_g0 ?_
  | (with_reducible show L2.GEnds.nx _ _ _ _; with_reducible refine Gn.w_gnx ?_)
  | with_reducible refine Po.w_tru ?_
  | ((with_reducible refine' Po.c_truL ?hs ?_); (case hs => walk_at "hp"))
  | ((with_reducible refine' Po.c_boolL ?hs ?_); (case hs => walk_at "sq"))
  | ((with_reducible refine' Ow.c_ownLen ?hs ?_); (case hs => walk_at "hp"))
  | ((with_reducible refine' Ow.c_own2 ?hs ?hz ?_); (case hs => walk_at "hp"); (case hz => walk_at "hp")))
namespace LW
open PySem L2 SX Tx Tl
/-! pieces: labels known, clashes, joined, told -/
def Gp : Pp → Prop
  | .inl l => l.all litB = true
  | .inr (k, v) => (k = [] ∨ labelB k = true) ∧ k.length ≤ 14 ∧ DV v
theorem Gp.ok {p : Pp} (h : Gp p) : PpOk p := by
  cases p with
  | inl l => exact h
  | inr x => exact ⟨h.1, h.2.1, h.2.2.val⟩
theorem label_rng {k : List Nat} (h : k = [] ∨ labelB k = true) : ∀ c ∈ k, 32 ≤ c ∧ c ≤ 126 := by
  rcases h with rfl | h
  · exact fun _ z => nomatch z
  · obtain ⟨d, hd, hdd⟩ := stem_app k
    unfold labelB at h
    rw [Bool.and_eq_true] at h
    have hw := h.1
    unfold wordB at hw
    rw [Bool.and_eq_true] at hw
    intro c hc
    rw [hd] at hc
    rcases List.mem_append.mp hc with hc | hc
    · have := List.all_eq_true.mp hw.2 c hc
      unfold low at this
      simp only [Bool.and_eq_true, decide_eq_true_eq] at this
      omega
    · have := List.all_eq_true.mp hdd c hc
      unfold dig at this
      simp only [Bool.and_eq_true, decide_eq_true_eq] at this
      omega
theorem hole_S : ("hole" : Str) = S [104, 111, 108, 101] := by decide +kernel
theorem Gp.tp {p : Pp} (h : Gp p) : TP (pp p) := by
  cases p with
  | inl l => exact TP.say fun c hc => lit_rng (List.all_eq_true.mp h c hc)
  | inr x =>
    obtain ⟨k, v⟩ := x
    intro y hy
    have hy : y ∈ [V.str "hole", .str (S k), v] := hy
    rcases List.mem_cons.mp hy with rfl | hy
    · rw [hole_S]
      exact .str _ (by decide)
    · rcases List.mem_cons.mp hy with rfl | hy
      · exact .str _ (label_rng h.1)
      · rw [List.mem_singleton.mp hy]
        exact TV.of h.2.2
theorem putP_gp {acc : List Pp} {p : Pp} (ha : ∀ q ∈ acc, Gp q) (hp : Gp p) : ∀ q ∈ putP acc p, Gp q := by
  cases p with
  | inr x =>
    intro q hq
    rcases List.mem_append.mp hq with hq | hq
    · exact ha q hq
    · rw [List.mem_singleton.mp hq]
      exact hp
  | inl l =>
    unfold putP
    dsimp only
    split
    · exact ha
    · split
      · rename_i m hm
        intro q hq
        rcases List.mem_append.mp hq with hq | hq
        · exact ha q ((List.dropLast_sublist acc).subset hq)
        · rw [List.mem_singleton.mp hq]
          show (m ++ l).all litB = true
          rw [List.all_append, show m.all litB = true from ha _ (List.mem_of_getLast? hm), show l.all litB = true from hp]
          rfl
      · intro q hq
        rcases List.mem_append.mp hq with hq | hq
        · exact ha q hq
        · rw [List.mem_singleton.mp hq]
          exact hp
theorem mergeP_gp {ps : List Pp} (h : ∀ p ∈ ps, Gp p) : ∀ p ∈ mergeP ps, Gp p := by
  have key : ∀ (qs acc : List Pp), (∀ p ∈ acc, Gp p) → (∀ p ∈ qs, Gp p) → ∀ p ∈ qs.foldl putP acc, Gp p := by
    intro qs
    induction qs with
    | nil => exact fun acc ha _ => ha
    | cons q r ih => exact fun acc ha hq => ih _ (putP_gp ha (hq q List.mem_cons_self)) fun p hp => hq p (List.mem_cons_of_mem _ hp)
  exact key ps [] (fun p hp => nomatch hp) h
/-! the values of the labels -/
def knP (acc : List (Key × V)) : Pp → List (Key × V)
  | .inr (c :: k, v) => putK acc (.inr (S (c :: k))) v
  | _ => acc
def knownK (ps : List Pp) : List (Key × V) := ps.foldl knP []
theorem knownK_snoc (ps : List Pp) (p : Pp) : knownK (ps ++ [p]) = knP (knownK ps) p := by
  unfold knownK
  rw [List.foldl_append]
  rfl
theorem knownK_take {ps : List Pp} {i : Nat} {p : Pp} (h : ps[i]? = some p) : knownK (ps.take (i + 1)) = knP (knownK (ps.take i)) p := by
  obtain ⟨hlt, he⟩ := List.getElem?_eq_some_iff.mp h
  rw [List.take_succ_eq_append_getElem hlt, he, knownK_snoc]
theorem kn_get (M : List Pp) : ∀ (qs : List Pp) (acc : List (Key × V)), (∀ k v, valV acc (.inr (S k)) = some v → k ≠ [] ∧ Sum.inr (k, v) ∈ M) → (∀ p ∈ qs, p ∈ M) → ∀ k v, valV (qs.foldl knP acc) (.inr (S k)) = some v → k ≠ [] ∧ Sum.inr (k, v) ∈ M
  | [], _, h, _ => h
  | p :: r, acc, h, hm => by
    refine kn_get M r (knP acc p) ?_ fun q hq => hm q (List.mem_cons_of_mem _ hq)
    have hp := hm p List.mem_cons_self
    cases p with
    | inl l => exact h
    | inr x =>
      obtain ⟨k0, v0⟩ := x
      cases k0 with
      | nil => exact h
      | cons c k0 =>
        intro k v hv
        have hv : valV (putK acc (.inr (S (c :: k0))) v0) (.inr (S k)) = some v := hv
        rw [valV_put] at hv
        by_cases e : (.inr (S k) : Key) = .inr (S (c :: k0))
        · rw [if_pos e] at hv
          have ek := S_inj (Sum.inr.inj e)
          rw [ek, ← Option.some.inj hv]
          exact ⟨(fun z => nomatch z), hp⟩
        · rw [if_neg e] at hv
          exact h k v hv
theorem known_get {ps : List Pp} {k : List Nat} {v : V} (h : valV (knownK ps) (.inr (S k)) = some v) : k ≠ [] ∧ Sum.inr (k, v) ∈ ps :=
  kn_get ps ps [] (fun _ _ z => nomatch z) (fun _ z => z) k v h
theorem knP_len (acc : List (Key × V)) (p : Pp) : (knP acc p).length ≤ acc.length + 1 := by
  cases p with
  | inl l => exact Nat.le_succ _
  | inr x =>
    obtain ⟨k, v⟩ := x
    cases k with
    | nil => exact Nat.le_succ _
    | cons c k =>
      show (putK acc _ v).length ≤ _
      unfold putK
      split
      · rw [List.length_map]
        omega
      · rw [List.length_append]
        exact Nat.le_refl _
theorem known_len (ps : List Pp) : (knownK ps).length ≤ ps.length := by
  have : ∀ (qs : List Pp) (acc : List (Key × V)), (qs.foldl knP acc).length ≤ acc.length + qs.length := by
    intro qs
    induction qs with
    | nil => exact fun acc => Nat.le_refl _
    | cons q r ih =>
      intro acc
      have h1 := ih (knP acc q)
      have h2 := knP_len acc q
      show (r.foldl knP (knP acc q)).length ≤ acc.length + (r.length + 1)
      omega
  have h := this ps []
  rw [List.length_nil, Nat.zero_add] at h
  exact h
/-- labels of both have one value -/
def NoClash (a b : List Pp) : Prop := ∀ k v w, k ≠ [] → Sum.inr (k, v) ∈ a → Sum.inr (k, w) ∈ b → v = w
def sp_check_clash : Sp := fun vs H Q _ => ∃ (a b : Addr) (pa pb : List Pp), vs = [.ref a, .ref b] ∧ CellsAt H a pa ∧ CellsAt H b pb ∧ pa.length < 20000 ∧ pb.length < 20000 ∧ (∀ p ∈ pa, Gp p) ∧ (∀ p ∈ pb, Gp p) ∧ NoClash pa pb ∧
  ∀ H', Same H H' → Q .non H'
section
variable {P : Program} {w : World} {K : PySem.W.Frag} {mg : Str → Option Value} {base : Heap} {Z : Ad}
end
/-! as_piece, joined -/
def ArgAt (C : Addr) (H : Hp) (x : V) (ps : List Pp) (lv : Str) : Prop := (∃ a, x = .ref a ∧ PieceAt C H a ps lv) ∨ ∃ l : List Nat, x = .str (S l) ∧ l.all litB = true ∧ l.length < 10000 ∧ ps = mergeP [.inl l] ∧ lv = "term"
theorem ArgAt.keep {C : Addr} {H H' : Hp} {x : V} {ps : List Pp} {lv : Str} (h : ArgAt C H x ps lv) (s : Same H H') : ArgAt C H' x ps lv := by
  rcases h with ⟨a, e, h⟩ | h
  · exact .inl ⟨a, e, h.keep s⟩
  · exact .inr h
def sp_as_piece (C : Addr) : Sp := fun vs H Q _ => ∃ (x : V) (ps : List Pp) (lv : Str), vs = [x] ∧ ArgAt C H x ps lv ∧ ∀ (a : Addr) (H' : Hp), PieceAt C H' a ps lv → Same H H' → Q (.ref a) H'
def parP (b : Bool) (ps : List Pp) : List Pp := if b = true then .inl [40] :: (ps ++ [.inl [41]]) else ps
def parB (lv l : Str) : Bool := decide (lv = "and") && decide (l = "or")
def catP (wd : List Nat) (lv : Str) (A B : List Pp × Str) : List Pp := parP (parB lv A.2) A.1 ++ .inl wd :: parP (parB lv B.2) B.1
/-- two pieces with a word between them -/
def joinP (wd : List Nat) (lv : Str) (A B : List Pp × Str) : List Pp × Str := if A.1 = [] then B else if B.1 = [] then A else (mergeP (catP wd lv A B), lv)
structure Ops (wd : List Nat) (lv : Str) (A B : List Pp × Str) : Prop where
  ma : mergeP A.1 = A.1
  mb : mergeP B.1 = B.1
  fa : Few A.1
  fb : Few B.1
  fc : Few (catP wd lv A B)
  ga : ∀ p ∈ A.1, Gp p
  gb : ∀ p ∈ B.1, Gp p
  nc : NoClash A.1 B.1
def sp_joined (C : Addr) : Sp := fun vs H Q _ => ∃ (a b : Addr) (wd : List Nat) (lv : Str) (A B : List Pp × Str), vs = [.ref a, .ref b, .str (S wd), .str lv] ∧ PieceAt C H a A.1 A.2 ∧ PieceAt C H b B.1 B.2 ∧ Ops wd lv A B ∧
  ∀ (x : Addr) (H' : Hp), H x = none → PieceAt C H' x (joinP wd lv A B).1 (joinP wd lv A B).2 → Same H H' → Q (.ref x) H'
def sp_Piece_add (C : Addr) : Sp := fun vs H Q _ => ∃ (a : Addr) (y : V) (A B : List Pp × Str), vs = [.ref a, y] ∧ PieceAt C H a A.1 A.2 ∧ ArgAt C H y B.1 B.2 ∧ Ops [] "term" A B ∧
  ∀ (x : Addr) (H' : Hp), H x = none → PieceAt C H' x (joinP [] "term" A B).1 (joinP [] "term" A B).2 → Same H H' → Q (.ref x) H'
def sp_Piece_radd (C : Addr) : Sp := fun vs H Q _ => ∃ (b : Addr) (y : V) (A B : List Pp × Str), vs = [.ref b, y] ∧ ArgAt C H y A.1 A.2 ∧ PieceAt C H b B.1 B.2 ∧ Ops [] "term" A B ∧
  ∀ (x : Addr) (H' : Hp), H x = none → PieceAt C H' x (joinP [] "term" A B).1 (joinP [] "term" A B).2 → Same H H' → Q (.ref x) H'
theorem lk_pc (ca : Addr) (lv t : Str) : (fldsP ca lv t).lookup ("cells" : Str) = some (V.ref ca) := by rfl
theorem lk_pl (ca : Addr) (lv t : Str) : (fldsP ca lv t).lookup ("level" : Str) = some (V.str lv) := by rfl
theorem lk_pt (ca : Addr) (lv t : Str) : (fldsP ca lv t).lookup ("text" : Str) = some (V.str t) := by rfl
section
variable {P : Program} {w : World} {K : PySem.W.Frag} {mg : Str → Option Value} {base : Heap} {Z : Ad}
end
end LW
end

section
local macro_rules | `(tactic| walk_at "tx") => `(tactic| first
  | with_reducible refine Pz.w_star ?_
  | ((with_reducible refine' Pz.c_starL ?hs ?_); (case hs => walk_at "hp"))
  | with_reducible refine Pz.w_mkR ?_
  | ((with_reducible refine' Pz.w_mkVar ?hs ?_); (case hs => exact rfl))
  | with_reducible refine Mk.w_prop ?_
  | with_reducible refine Mk.w_methK ?_
  | ((with_reducible refine' Po.c_ownS ?hs ?_); (case hs => walk_at "hp"))
  | ((with_reducible refine' Po.c_ownSR ?hs ?_); (case hs => walk_at "hp"))
  | ((with_reducible refine' Po.c_ownBool ?hs ?_); (case hs => walk_at "hp"))
  | ((with_reducible refine' Po.c_ownSet ?hs ?_); (case hs => walk_at "hp"))
  | with_reducible refine Gn.w_gThen ?_
  | with_reducible refine Gn.w_gFor ?_
  | with_reducible refine Gn.w_gIf ?_
  | with_reducible refine Gn.w_g0 ?_
  | (with_reducible show L2.GEnds.nx _ _ _ _; with_reducible refine Gn.w_gnx ?_)
  | with_reducible refine Po.w_tru ?_
  | ((with_reducible refine' Po.c_truL ?hs ?_); (case hs => walk_at "hp"))
  | ((with_reducible refine' Po.c_boolL ?hs ?_); (case hs => walk_at "sq"))
  | ((with_reducible refine' Ow.c_ownLen ?hs ?_); (case hs => walk_at "hp"))
  | ((with_reducible refine' Ow.c_own2 ?hs ?hz ?_); (case hs => walk_at "hp"); (case hz => walk_at "hp")))
namespace LW
open PySem L2 SX Tx Tl
/-! what a piece tells; a new value for a label -/
def holesP (ps : List Pp) : List (List Nat × V) := ps.filterMap fun p => match p with | .inl _ => none | .inr x => some x
def hoP (x : List Nat × V) : Pc := .oth (S x.1) [x.2]
theorem holes_snoc_say (ps : List Pp) (l : List Nat) : holesP (ps ++ [.inl l]) = holesP ps := by
  unfold holesP
  rw [List.filterMap_append]
  exact List.append_nil _
theorem holes_snoc (ps : List Pp) (x : List Nat × V) : holesP (ps ++ [.inr x]) = holesP ps ++ [x] := by
  unfold holesP
  rw [List.filterMap_append]
  rfl
theorem holes_len : ∀ ps : List Pp, (holesP ps).length = (ps.filter holeP).length
  | [] => rfl
  | .inl _ :: r => holes_len r
  | .inr x :: r => congrArg (· + 1) (holes_len r)
def setP (l : List Nat) (v : V) : Pp → Pp
  | .inl m => .inl m
  | .inr (k, w) => if k = l then .inr (l, v) else .inr (k, w)
def labIn (ps : List Pp) (l : List Nat) : Prop := l ≠ [] ∧ ∃ v, Sum.inr (l, v) ∈ ps
def sp_is_label_of : Sp := fun vs H Q _ => ∃ (a : Addr) (ps : List Pp) (l : List Nat), vs = [.ref a, .str (S l)] ∧ CellsAt H a ps ∧ ps.length < 20000 ∧ l ≠ [] ∧ ∀ (r : Bool) (H' : Hp), (r = true ↔ labIn ps l) → Same H H' → Q (.bl r) H'
def sp_Piece_parts (C : Addr) : Sp := fun vs H Q _ => ∃ (a : Addr) (ps : List Pp) (lv : Str), vs = [.ref a] ∧ PieceAt C H a ps lv ∧ ∀ (p : Addr) (ys : List V) (H' : Hp), H p = none → H' p = some (.tup ys) → PcsAt H' ys (ps.map pp) → Same H H' → Q (.ref p) H'
def sp_Piece_holes (C : Addr) : SpG := fun vs H Q _ => ∃ (a : Addr) (ps : List Pp) (lv : Str), vs = [.ref a] ∧ PieceAt C H a ps lv ∧ ps.length < 20000 ∧ ∀ (ys : List V) (H' : Hp), PcsAt H' ys ((holesP ps).map hoP) → Same H H' → Q ys H'
def sp_Piece_len (C : Addr) : Sp := fun vs H Q _ => ∃ (a : Addr) (ps : List Pp) (lv : Str), vs = [.ref a] ∧ PieceAt C H a ps lv ∧ ps.length < 20000 ∧ ∀ H', Same H H' → Q (.int ((holesP ps).length : Nat)) H'
def sp_Piece_bool (C : Addr) : Sp := fun vs H Q _ => ∃ (a : Addr) (ps : List Pp) (lv : Str), vs = [.ref a] ∧ PieceAt C H a ps lv ∧ Q (.bl (!ps.isEmpty)) H
def sp_Piece_setitem (C : Addr) : Sp := fun vs H Q _ => ∃ (a : Addr) (ps : List Pp) (lv : Str) (l : List Nat) (v : V), vs = [.ref a, .str (S l), v] ∧ PieceAt C H a ps lv ∧ ps.length < 20000 ∧ labIn ps l ∧ IsVal v ∧
  ∀ H', PieceAt C H' a (ps.map (setP l v)) lv → (∀ b o, H b = some o → b ≠ a → H' b = some o) → Q .non H'
theorem pcs_empty {H : Hp} {ys : List V} {ps : List Pp} (h : PcsAt H ys (ps.map pp)) : ys.isEmpty = ps.isEmpty := by
  have l := h.len
  rw [List.length_map] at l
  cases ys with
  | nil =>
    cases ps with
    | nil => rfl
    | cons _ _ => cases l
  | cons _ _ =>
    cases ps with
    | nil => cases l
    | cons _ _ => rfl
def lab0 : Pp → List Nat | .inr (k, _) => k | _ => []
theorem holes_mem {ps : List Pp} {x : List Nat × V} : x ∈ holesP ps ↔ Sum.inr x ∈ ps := by
  unfold holesP
  rw [List.mem_filterMap]
  constructor
  · rintro ⟨p, hp, e⟩
    cases p with
    | inl l => cases e
    | inr y =>
      cases e
      exact hp
  · exact fun h => ⟨_, h, rfl⟩
section
variable {P : Program} {w : World} {K : PySem.W.Frag} {mg : Str → Option Value} {base : Heap} {Z : Ad}
theorem ok_Piece_parts (T : Txt K mg Z) : FnOk P w K mg base CX0 1 Z.a_Piece_parts Z.d_Piece_parts ["self"] (sp_Piece_parts Z.c_Piece) := by
  refine T.F_Piece_parts.ok sc_Piece_parts (fun vs H Q E h => ?_) (fun cdv A outer s H vs Q E hr h => ?_)
  · obtain ⟨a, ps, lv, rfl, _⟩ := h
    rfl
  · obtain ⟨a, ps, lv, rfl, ⟨dx, ca, ho, ys, hc, py⟩, q⟩ := h
    have cP := T.cl_Piece
    have n1 := T.n_Piece_cells
    have a1 := lk_pc ca lv (S (tmpl ps))
    refine ⟨_, (pss_one (ps_ret (pe_callTy Eg.cr_tup (by rfl) T.u_tuple (by decide +kernel) (pa_cons (pe_fld (pv 0) rfl) pa_nil)))), ?_⟩
    refine Eg.w_sig (σ := [some (.ref a)]) rfl ?_
    walk_at "go"
    refine Eg.c_tupL (SqL.of hc) fun u hu' => ?_
    exact q u ys _ hu' upd_same (py.same fun b zs e => Eg.upd_old e hu') fun b o e => Eg.upd_old e hu'
theorem ok_Piece_holes (T : Txt K mg Z) : GFn P w K mg base 2 Z.a_Piece_holes Z.d_Piece_holes ["self"] (sp_Piece_holes Z.c_Piece) := by
  refine Gn.gok T.F_Piece_holes sc_Piece_holes (fun vs H Q E h => ?_) (fun cdv A outer s H vs Q E pn hr h => ?_)
  · obtain ⟨a, ps, lv, rfl, _⟩ := h
    rfl
  · obtain ⟨a, ps, lv, rfl, ⟨dx, ca, ho, ys, hc, py⟩, few, q⟩ := h
    have cP := T.cl_Piece
    have n1 := T.n_Piece_cells
    have nd := sc_Piece_holes.nd
    have a1 := lk_pc ca lv (S (tmpl ps))
    refine ⟨_, (gss_cons (Gn.gs_for owns_gcx rfl (pi_list (pe_callTy call_list_of (by rfl) T.u_list (by decide +kernel) (pa_cons (pe_fld (pv 0) rfl) pa_nil))) (pg_name (i := 1) nd rfl (Or.inl rfl))
  (gss_cons (Gn.gs_if (pt_cmpR op_eq (pe_ix ix_tup (pv 1) pe_int (fun _ _ => rfl)) pe_str (nomark _))
  (gss_cons (gs_yield (pe_tup (pa_cons (pe_ix ix_tup (pv 1) pe_int (fun _ _ => rfl)) (pa_cons (pe_ix ix_tup (pv 1) pe_int (fun _ _ => rfl)) pa_nil))))
  gss_nil)
  gss_nil)
  gss_nil))
  gss_nil), ?_⟩
    refine Gn.w_gsig (σ := [some (.ref a), none]) rfl ?_
    have yl := py.len
    rw [List.length_map] at yl
    walk_at "go"
    refine ⟨ca, ys, rfl, .inl (SqL.of hc), fun l hl => ?_⟩
    have h1l : upd H l (.lst ys) l = some (.lst ys) := upd_same
    have s1 : Same H (upd H l (.lst ys)) := fun c o e => Eg.upd_old e hl
    generalize upd H l (.lst ys) = H1 at h1l s1 ⊢
    have py1 := py.same fun b zs e => s1 _ _ e
    walk_at "go"
    refine Gn.gfor_list (xs := ys) (fun j zs σ' H' => ∃ v1 : Option V, σ' = [some (.ref a), v1] ∧ PcsAt H' zs ((holesP (ps.take j)).map hoP) ∧ Same H1 H') ⟨none, rfl, .nil, Same.refl _⟩ ?_ ?_ ?_
    · rintro j _ _ H2 _ ⟨v1, rfl, _, s2⟩
      exact SqL.of (s2 _ _ h1l)
    · rintro j x zs _ H2 hx ⟨v1, rfl, pz, s2⟩
      obtain ⟨p, t, hp, rfl, ht0⟩ := py1.get hx
      rw [List.getElem?_map] at hp
      obtain ⟨c, hc', rfl⟩ := Option.map_eq_some_iff.mp hp
      obtain ⟨hlt, he⟩ := List.getElem?_eq_some_iff.mp hc'
      have tk : ps.take (j + 1) = ps.take j ++ [c] := by rw [List.take_succ_eq_append_getElem hlt, he]
      have ht := s2 _ _ ht0
      cases c with
      | inl l =>
        have ht : H2 t = some (.tup [.str "say", .str (S l)]) := ht
        walk_at "go"
        rw [d_sh']
        walk_at "go"
        refine ⟨_, rfl, ?_, s2⟩
        rw [tk, holes_snoc_say]
        exact pz
      | inr x =>
        obtain ⟨k, v⟩ := x
        have ht : H2 t = some (.tup [.str "hole", .str (S k), v]) := ht
        have zl := pz.len
        have hl1 := holes_len (ps.take j)
        have hl2 := List.length_filter_le holeP (ps.take j)
        rw [List.length_map] at zl
        rw [List.length_take] at hl2
        walk_at "go"
        rw [decide_eq_true (rfl : V.str "hole" = V.str "hole")]
        walk_at "go"
        refine Gn.w_gYield (by omega) ?_
        walk_at "go"
        intro tt htt
        have h3t : upd H2 tt (.tup [.str (S k), v]) tt = some (.tup (hoP (k, v)).vs) := upd_same
        have s3 : Same H2 (upd H2 tt (.tup [.str (S k), v])) := fun c o e => Eg.upd_old e htt
        generalize upd H2 tt (.tup [.str (S k), v]) = H3 at h3t s3 ⊢
        walk_at "go"
        refine ⟨_, rfl, ?_, s2.trans s3⟩
        rw [tk, holes_snoc, List.map_append]
        exact PcsAt.app (pz.same fun b zs e => s3 _ _ e) (PcsAt.one (p := hoP (k, v)) h3t)
    · rintro zs _ H2 ⟨v1, rfl, pz, s2⟩
      rw [yl, List.take_length] at pz
      walk_at "go"
      exact q zs H2 pz (s1.trans s2)
theorem ok_Piece_len (T : Txt K mg Z) : FnOk P w K mg base CX0 1 Z.a_Piece_len Z.d_Piece_len ["self"] (sp_Piece_len Z.c_Piece) := by
  refine T.F_Piece_len.ok sc_Piece_len (fun vs H Q E h => ?_) (fun cdv A outer s H vs Q E hr h => ?_)
  · obtain ⟨a, ps, lv, rfl, _⟩ := h
    rfl
  · obtain ⟨a, ps, lv, rfl, ⟨dx, ca, ho, ys, hc, py⟩, few, q⟩ := h
    have cP := T.cl_Piece
    have n1 := T.n_Piece_cells
    have nd := sc_Piece_len.nd
    have a1 := lk_pc ca lv (S (tmpl ps))
    obtain ⟨L, h1, h2, h3⟩ := pps_pairs py
    have ll : L.length = ps.length := by rw [← h2, List.length_map]
    refine ⟨_, (pss_one (ps_ret (pe_callB Eg.cr_len (by rfl) T.u_len (by decide +kernel) (pa_cons (pe_lc (own := [("part", 1)]) rfl nd (pi_list (pe_fld (pv 0) rfl)) (blkOk_by (N := N_Piece_len) (sc := defScope s_Piece_len) (by decide +kernel)) (fun _ _ _ _ _ => (pg_name (i := 1) nd rfl (Or.inl rfl))) (fun _ _ _ _ _ => (Eg.ptsE (pts_one (pt_cmpR op_eq (pe_ix ix_tup (pv 1) pe_int (fun _ _ => rfl)) pe_str (nomark _))) (by walk_at "blk"))) (fun _ _ _ _ _ => (Eg.peE (pv 1) (by walk_at "blk")))) pa_nil)))), ?_⟩
    refine Eg.w_sig (σ := [some (.ref a), none]) rfl ?_
    walk_at "gw"
    refine fm_list (xs := L) (G := fun q => .ref q.1) (F := fun q => .ref q.1) (P := fun q => holeP q.2) (by rw [hc, h1]) (by omega) (fun R h => ?_) (fun H' z R s' hz h => ?_) (fun H' z R s' hz hp h => ?_) (fun D H1 hD s1 h1 => ?_)
    · walk_at "go"
      exact h
    · obtain ⟨t', c⟩ := z
      have ht := s' _ _ (h3 _ hz)
      cases c with
      | inl l =>
        have ht : H' t' = some (.tup [.str "say", .str (S l)]) := ht
        walk_at "go"
        rw [d_sh']
        exact h _ (Same.refl _)
      | inr x =>
        obtain ⟨k, v⟩ := x
        have ht : H' t' = some (.tup [.str "hole", .str (S k), v]) := ht
        walk_at "go"
        rw [decide_eq_true (rfl : V.str "hole" = V.str "hole")]
        exact h _ (Same.refl _)
    · walk_at "go"
      exact h _ (Same.refl _)
    · walk_at "go"
      have e : (L.filter fun q => holeP q.2).length = (holesP ps).length := by
        rw [holes_len, ← h2, List.filter_map, List.length_map]
        rfl
      rw [List.length_map, e]
      exact q H1 s1
theorem ok_Piece_bool (T : Txt K mg Z) : FnOk P w K mg base CX0 1 Z.a_Piece_bool Z.d_Piece_bool ["self"] (sp_Piece_bool Z.c_Piece) := by
  refine T.F_Piece_bool.ok sc_Piece_bool (fun vs H Q E h => ?_) (fun cdv A outer s H vs Q E hr h => ?_)
  · obtain ⟨a, ps, lv, rfl, _⟩ := h
    rfl
  · obtain ⟨a, ps, lv, rfl, ⟨dx, ca, ho, ys, hc, py⟩, q⟩ := h
    have cP := T.cl_Piece
    have n1 := T.n_Piece_cells
    have a1 := lk_pc ca lv (S (tmpl ps))
    refine ⟨_, (pss_one (ps_ret (pe_callTy Po.cr_boolL (by rfl) T.u_bool (by decide +kernel) (pa_cons (pe_fld (pv 0) rfl) pa_nil)))), ?_⟩
    refine Eg.w_sig (σ := [some (.ref a)]) rfl ?_
    walk_at "go"
    rw [pcs_empty py]
    exact q
end
end LW
end

section
local macro_rules | `(tactic| walk_at "tx") => `(tactic| first
  | with_reducible refine Pz.w_star ?_
  | ((with_reducible refine' Pz.c_starL ?hs ?_); (case hs => walk_at "hp"))
  | with_reducible refine Pz.w_mkR ?_
  | ((with_reducible refine' Pz.w_mkVar ?hs ?_); (case hs => exact rfl))
  | with_reducible refine Mk.w_prop ?_
  | with_reducible refine Mk.w_methK ?_
  | ((with_reducible refine' Po.c_ownS ?hs ?_); (case hs => walk_at "hp"))
  | ((with_reducible refine' Po.c_ownSR ?hs ?_); (case hs => walk_at "hp"))
  | ((with_reducible refine' Po.c_ownBool ?hs ?_); (case hs => walk_at "hp"))
  | ((with_reducible refine' Po.c_ownSet ?hs ?_); (case hs => walk_at "hp"))
  | with_reducible refine Gn.w_gThen ?_
  | with_reducible refine Gn.w_gFor ?_
  | with_reducible refine Gn.w_gIf ?_
  | with_reducible refine Gn.w_g0 ?_
  | (with_reducible show L2.GEnds.nx _ _ _ _; with_reducible refine Gn.w_gnx ?_)
  | with_reducible refine Po.w_tru ?_
  | ((with_reducible refine' Po.c_truL ?hs ?_); (case hs => walk_at "hp"))
  | ((with_reducible refine' Po.c_boolL ?hs ?_); (case hs => walk_at "sq"))
  | ((with_reducible refine' Ow.c_ownLen ?hs ?_); (case hs => walk_at "hp"))
  | ((with_reducible refine' Ow.c_own2 ?hs ?hz ?_); (case hs => walk_at "hp"); (case hz => walk_at "hp")))
namespace LW
open PySem L2 SX Tx Tl Rp
/-! what the law tells of pieces -/
def One (ps : List Pp) : Prop := NoClash ps ps
theorem putK_mem {kvs : List (Key × V)} {k : Key} {v : V} {y : Key × V} (h : y ∈ putK kvs k v) : y = (k, v) ∨ y ∈ kvs := by
  unfold putK at h
  split at h
  · obtain ⟨z, hz, e⟩ := List.mem_map.mp h
    by_cases c : z.1 = k
    · rw [if_pos c] at e
      exact .inl (by rw [← e, c])
    · rw [if_neg c] at e
      exact .inr (by rw [← e]; exact hz)
  · rcases List.mem_append.mp h with h | h
    · exact .inr h
    · exact .inl (List.mem_singleton.mp h)
theorem putK_nodup {kvs : List (Key × V)} {k : Key} {v : V} (h : (kvs.map (·.1)).Nodup) : ((putK kvs k v).map (·.1)).Nodup := by
  by_cases c : k ∈ kvs.map (·.1)
  · have : (putK kvs k v).map (·.1) = kvs.map (·.1) := by
      unfold putK
      have : (kvs.any fun p => decide (p.1 = k)) = true := by
        rw [List.any_eq_true]
        obtain ⟨p, hp, e⟩ := List.mem_map.mp c
        exact ⟨p, hp, decide_eq_true e⟩
      rw [if_pos this, List.map_map]
      refine List.map_congr_left fun p _ => ?_
      show (if p.1 = k then (p.1, v) else p).1 = p.1
      split <;> rfl
    rw [this]
    exact h
  · rw [Tl.putK_new c, List.map_append]
    refine List.nodup_append.mpr ⟨h, List.pairwise_singleton _ _, fun a ha b hb e => c ?_⟩
    have hb : b = k := List.mem_singleton.mp hb
    rw [← hb, ← e]
    exact ha
theorem known_keys (ps : List Pp) : ((knownK ps).map (·.1)).Nodup := by
  have : ∀ (qs : List Pp) (acc : List (Key × V)), (acc.map (·.1)).Nodup → ((qs.foldl knP acc).map (·.1)).Nodup := by
    intro qs
    induction qs with
    | nil => exact fun _ h => h
    | cons q r ih =>
      intro acc h
      refine ih _ ?_
      cases q with
      | inl l => exact h
      | inr x =>
        obtain ⟨k, v⟩ := x
        cases k with
        | nil => exact h
        | cons c k => exact putK_nodup h
  exact this ps [] List.nodup_nil
theorem known_strs {ps : List Pp} {y : Key × V} (h : y ∈ knownK ps) : ∃ k, y.1 = .inr (S k) := by
  have : ∀ (qs : List Pp) (acc : List (Key × V)), (∀ y ∈ acc, ∃ k, y.1 = .inr (S k)) → ∀ y ∈ qs.foldl knP acc, ∃ k, y.1 = .inr (S k) := by
    intro qs
    induction qs with
    | nil => exact fun _ h => h
    | cons q r ih =>
      intro acc h
      refine ih _ ?_
      cases q with
      | inl l => exact h
      | inr x =>
        obtain ⟨k, v⟩ := x
        cases k with
        | nil => exact h
        | cons c k =>
          intro y hy
          rcases putK_mem hy with e | hy
          · exact ⟨c :: k, by rw [e]⟩
          · exact h y hy
  exact this ps [] (fun _ z => nomatch z) y h
theorem known_has {ps : List Pp} {c : Nat} {k : List Nat} {v : V} (o : One ps) (h : Sum.inr (c :: k, v) ∈ ps) : valV (knownK ps) (.inr (S (c :: k))) = some v := by
  have key : ∀ (qs : List Pp) (acc : List (Key × V)), ((∃ w, valV acc (.inr (S (c :: k))) = some w) ∨ ∃ w, Sum.inr (c :: k, w) ∈ qs) → ∃ w, valV (qs.foldl knP acc) (.inr (S (c :: k))) = some w := by
    intro qs
    induction qs with
    | nil =>
      intro acc h
      rcases h with h | ⟨w, h⟩
      · exact h
      · cases h
    | cons q r ih =>
      intro acc h
      refine ih _ ?_
      by_cases e : ∃ w, q = .inr (c :: k, w)
      · obtain ⟨w, rfl⟩ := e
        refine .inl ⟨w, ?_⟩
        show valV (putK acc (.inr (S (c :: k))) w) _ = _
        rw [valV_put, if_pos rfl]
      · rcases h with ⟨w, h⟩ | ⟨w, h⟩
        · refine .inl ?_
          cases q with
          | inl l => exact ⟨w, h⟩
          | inr x =>
            obtain ⟨k', v'⟩ := x
            cases k' with
            | nil => exact ⟨w, h⟩
            | cons c' k' =>
              show ∃ w, valV (putK acc (.inr (S (c' :: k'))) v') _ = _
              rw [valV_put]
              split
              · exact ⟨_, rfl⟩
              · exact ⟨w, h⟩
        · rcases List.mem_cons.mp h with h | h
          · exact absurd ⟨w, h.symm⟩ e
          · exact .inr ⟨w, h⟩
  obtain ⟨w, hw⟩ := key ps [] (.inr ⟨v, h⟩)
  have hw' : valV (knownK ps) (.inr (S (c :: k))) = some w := hw
  rw [hw']
  exact congrArg some (o (c :: k) w v (List.cons_ne_nil _ _) (known_get hw').2 h)
theorem tab_known {ps : List Pp} (g : ∀ p ∈ ps, Gp p) (o : One ps) (few : ps.length < 64) : TabP ps (knownK ps) where
  nd := known_keys ps
  at_ := fun y hy => by
    obtain ⟨k, e⟩ := known_strs hy
    have hv := val_mem (known_keys ps) (k := y.1) (v := y.2) hy
    rw [e] at hv
    obtain ⟨hk, hm⟩ := known_get hv
    refine ⟨k, e, ?_, (g _ hm).2.2.val⟩
    cases k with
    | nil => exact absurd rfl hk
    | cons c k => exact List.mem_filterMap.mpr ⟨_, hm, rfl⟩
  has := fun c k v h => known_has o h
  few := Nat.lt_of_le_of_lt (known_len ps) few
/-! sizes -/
def wP : Pp → Nat
  | .inl l => l.length + 6
  | .inr _ => 240
def NoE (ps : List Pp) : Prop := ∀ p ∈ ps, p ≠ .inl []
theorem nm_noE {ps : List Pp} (h : Nm ps) : NoE ps := by
  induction h with
  | nil => exact fun _ z => nomatch z
  | hole h x ih =>
    intro p hp
    rcases List.mem_append.mp hp with hp | hp
    · exact ih p hp
    · rw [List.mem_singleton.mp hp]
      exact fun z => nomatch z
  | say h hl hn ih =>
    intro p hp
    rcases List.mem_append.mp hp with hp | hp
    · exact ih p hp
    · rw [List.mem_singleton.mp hp]
      exact fun z => hl (Sum.inl.inj z)
theorem noE_len : ∀ {ps : List Pp}, NoE ps → ps.length ≤ (tmpl ps).length
  | [], _ => Nat.le_refl _
  | p :: r, h => by
    have ih := noE_len (ps := r) fun q hq => h q (List.mem_cons_of_mem _ hq)
    have h1 := h p List.mem_cons_self
    have e : (tmpl (p :: r)).length = (tmplP p).length + (tmpl r).length := List.length_append
    have : 1 ≤ (tmplP p).length := by
      cases p with
      | inl l =>
        cases l with
        | nil => exact absurd rfl h1
        | cons c l => exact Nat.succ_le_succ (Nat.zero_le _)
      | inr x => exact Nat.succ_le_succ (Nat.zero_le _)
    rw [e, List.length_cons]
    omega
theorem noE_w : ∀ {ps : List Pp}, NoE ps → (ps.map fun p => wP p + 1).sum ≤ 121 * (tmpl ps).length
  | [], _ => Nat.le_refl _
  | p :: r, h => by
    have ih := noE_w (ps := r) fun q hq => h q (List.mem_cons_of_mem _ hq)
    have h1 := h p List.mem_cons_self
    have e : (tmpl (p :: r)).length = (tmplP p).length + (tmpl r).length := List.length_append
    have : wP p + 1 ≤ 121 * (tmplP p).length := by
      cases p with
      | inl l =>
        cases l with
        | nil => exact absurd rfl h1
        | cons c l =>
          show (l.length + 1) + 6 + 1 ≤ 121 * (l.length + 1)
          omega
      | inr x =>
        show 240 + 1 ≤ 121 * ((x.1 ++ [125]).length + 1)
        rw [List.length_append]
        show 240 + 1 ≤ 121 * (x.1.length + 1 + 1)
        omega
    rw [e, List.map_cons, List.sum_cons]
    omega
theorem holes_w : ∀ ps : List Pp, (holesP ps).length * 2 ≤ (tmpl ps).length
  | [] => Nat.le_refl _
  | .inl l :: r => by
    have ih := holes_w r
    have e : (tmpl (.inl l :: r)).length = l.length + (tmpl r).length := List.length_append
    show (holesP r).length * 2 ≤ _
    omega
  | .inr x :: r => by
    have ih := holes_w r
    have e : (tmpl (.inr x :: r)).length = (tmplP (.inr x)).length + (tmpl r).length := List.length_append
    have : (tmplP (.inr x)).length = x.1.length + 2 := by
      show ((x.1 ++ [125]).length + 1) = _
      rw [List.length_append]
      rfl
    show ((holesP r).length + 1) * 2 ≤ _
    omega
theorem ok_val {v : V} (h : DV v) : Ok 0 200 (dV v) := by
  cases h with
  | int i hi =>
    refine .int ?_
    have e : most = ((10 ^ 40 : Nat) : Int) := by unfold most; decide +kernel
    rw [e] at hi
    split at hi <;> omega
  | str l hl hc =>
    exact (Ok.str fun c hx => Nat.lt_of_le_of_lt (hc c hx).2 (by decide)).mono (Nat.le_refl _) (by omega)
theorem ok_lab {k : List Nat} (h : k = [] ∨ labelB k = true) (hl : k.length ≤ 14) : Ok 0 14 (.str (S k)) :=
  (Ok.str fun c hx => Nat.lt_of_le_of_lt (label_rng h c hx).2 (by decide)).mono (Nat.le_refl _) hl
theorem ok_part {p : Pp} (h : Gp p) : Ok 1 (wP p) (dPc (pp p)) := by
  cases p with
  | inl l =>
    have := Rv.okTupS (k := 0) (fun d : PyData × Nat => d.1) (fun d => d.2) (xs := [(.str "say", 3), (.str (S l), l.length)]) fun x hx => by
      rcases List.mem_cons.mp hx with rfl | hx
      · rw [say_S]
        exact Ok.str (l := [115, 97, 121]) (by decide)
      · rw [List.mem_singleton.mp hx]
        exact Ok.str fun c hx => Nat.lt_of_le_of_lt (lit_rng (List.all_eq_true.mp h c hx)).2 (by decide)
    exact this.mono (Nat.le_refl _) (by show 3 + 1 + (l.length + 1 + 0) ≤ l.length + 6; omega)
  | inr x =>
    obtain ⟨k, v⟩ := x
    have := Rv.okTupS (k := 0) (fun d : PyData × Nat => d.1) (fun d => d.2) (xs := [(.str "hole", 4), (.str (S k), 14), (dV v, 200)]) fun x hx => by
      rcases List.mem_cons.mp hx with rfl | hx
      · rw [hole_S]
        exact Ok.str (l := [104, 111, 108, 101]) (by decide)
      · rcases List.mem_cons.mp hx with rfl | hx
        · exact ok_lab h.1 h.2.1
        · rw [List.mem_singleton.mp hx]
          exact ok_val h.2.2
    exact this.mono (Nat.le_refl _) (by show 4 + 1 + (14 + 1 + (200 + 1 + 0)) ≤ 240; omega)
theorem ok_parts {ps : List Pp} (h : ∀ p ∈ ps, Gp p) (n : NoE ps) : Ok 2 (121 * (tmpl ps).length) (dPs (ps.map pp)) := by
  have := Rv.okTupS (k := 1) (fun p => dPc (pp p)) wP (xs := ps) fun p hp => ok_part (h p hp)
  unfold dPs
  rw [List.map_map]
  exact this.mono (Nat.le_refl _) (noE_w n)
def dHo (x : List Nat × V) : PyData := .tuple [.str (S x.1), dV x.2]
theorem ok_holes {ps : List Pp} (h : ∀ p ∈ ps, Gp p) : Ok 2 (120 * (tmpl ps).length) (.list ((holesP ps).map dHo)) := by
  have := Rv.okListS (k := 1) dHo (fun _ => 217) (xs := holesP ps) fun x hx => by
    have g := h _ (holes_mem.mp hx)
    have := Rv.okTupS (k := 0) (fun d : PyData × Nat => d.1) (fun d => d.2) (xs := [(.str (S x.1), 14), (dV x.2, 200)]) fun y hy => by
      rcases List.mem_cons.mp hy with rfl | hy
      · exact ok_lab g.1 g.2.1
      · rw [List.mem_singleton.mp hy]
        exact ok_val g.2.2
    exact this.mono (Nat.le_refl _) (by show 14 + 1 + (200 + 1 + 0) ≤ 217; omega)
  refine this.mono (Nat.le_refl _) ?_
  rw [List.map_const', List.sum_replicate_nat]
  have := holes_w ps
  omega
theorem dp_holes {K : PySem.W.Frag} {H : Hp} : ∀ {ys : List V} {xs : List (List Nat × V)}, PcsAt H ys (xs.map hoP) → (∀ x ∈ xs, TV x.2) → DpAll K H ys (xs.map dHo)
  | _, [], .nil, _ => .nil
  | _, x :: r, .cons ⟨t, e, ht⟩ h, hv => by
    subst e
    exact .cons (.tup (SqT.of ht) (.cons (.str _) (.cons (dp_tv (hv x List.mem_cons_self)) .nil))) (dp_holes h fun z hz => hv z (List.mem_cons_of_mem _ hz))
end LW
end

section
local macro_rules | `(tactic| walk_at "tx") => `(tactic| first
  | with_reducible refine Pz.w_star ?_
  | ((with_reducible refine' Pz.c_starL ?hs ?_); (case hs => walk_at "hp"))
  | with_reducible refine Pz.w_mkR ?_
  | ((with_reducible refine' Pz.w_mkVar ?hs ?_); (case hs => exact rfl))
  | with_reducible refine Mk.w_prop ?_
  | with_reducible refine Mk.w_methK ?_
  | ((with_reducible refine' Po.c_ownS ?hs ?_); (case hs => walk_at "hp"))
  | ((with_reducible refine' Po.c_ownSR ?hs ?_); (case hs => walk_at "hp"))
  | ((with_reducible refine' Po.c_ownBool ?hs ?_); (case hs => walk_at "hp"))
  | ((with_reducible refine' Po.c_ownSet ?hs ?_); (case hs => walk_at "hp"))
  | with_reducible refine Gn.w_gThen ?_
  | with_reducible refine Gn.w_gFor ?_
  | with_reducible refine Gn.w_gIf ?_
  | with_reducible refine Gn.w_g0 ?_
  | (with_reducible show L2.GEnds.nx _ _ _ _; with_reducible refine Gn.w_gnx ?_)
  | with_reducible refine Po.w_tru ?_
  | ((with_reducible refine' Po.c_truL ?hs ?_); (case hs => walk_at "hp"))
  | ((with_reducible refine' Po.c_boolL ?hs ?_); (case hs => walk_at "sq"))
  | ((with_reducible refine' Ow.c_ownLen ?hs ?_); (case hs => walk_at "hp"))
  | ((with_reducible refine' Ow.c_own2 ?hs ?hz ?_); (case hs => walk_at "hp"); (case hz => walk_at "hp")))
namespace LW
open PySem L2 SX Tx Tl Rp
/-! the law's helpers for pieces -/
def sp_l_values : Sp := fun vs H Q _ => ∃ (a : Addr) (ps : List Pp), vs = [.ref a] ∧ CellsAt H a ps ∧ ps.length < 20000 ∧ ∀ (r : Addr) (H' : Hp), H r = none → H' r = some (.lst (ps.filterMap valP)) → Same H H' → Q (.ref r) H'
def sp_l_table : Sp := fun vs H Q _ => ∃ (a : Addr) (ps : List Pp), vs = [.ref a] ∧ CellsAt H a ps ∧ ps.length < 20000 ∧ ∀ (r : Addr) (H' : Hp), H r = none → H' r = some (.dK (knownK ps)) → Same H H' → Q (.ref r) H'
def sp_l_around : Sp := fun vs H Q _ => ∃ (a : Addr) (ps : List Pp) (b : Bool), vs = [.ref a, .bl b] ∧ CellsAt H a ps ∧ ps.length < 20000 ∧ ∀ (r : Addr) (H' : Hp), CellsAt H' r (parP b ps) → Same H H' → Q (.ref r) H'
def DueAt (H : Hp) (t : Addr) (A : List Pp × Str) : Prop := ∃ c, H t = some (.tup [.ref c, .str A.2]) ∧ CellsAt H c A.1
theorem DueAt.keep {H H' : Hp} {t : Addr} {A : List Pp × Str} (h : DueAt H t A) (s : Same H H') : DueAt H' t A := by
  obtain ⟨c, h1, h2⟩ := h
  exact ⟨c, s _ _ h1, h2.keep s⟩
/-- the signs of joining -/
inductive Sg : Str → List Nat → Str → Prop
  | add : Sg "+" [] "term"
  | or : Sg "|" [32, 111, 114, 32] "or"
  | and : Sg "&" [32, 97, 110, 100, 32] "and"
def sp_l_joined : Sp := fun vs H Q _ => ∃ (t u : Addr) (A B : List Pp × Str) (sg lv : Str) (wd : List Nat), vs = [.ref t, .ref u, .str sg] ∧ DueAt H t A ∧ DueAt H u B ∧ Sg sg wd lv ∧ Few A.1 ∧ Few B.1 ∧ Few (catP wd lv A B) ∧ (∀ p ∈ A.1, Gp p) ∧ (∀ p ∈ B.1, Gp p) ∧
  ∀ (r : Addr) (H' : Hp), DueAt H' r (joinP wd lv A B) → Same H H' → Q (.ref r) H'
def sp_l_made (C : Addr) : Sp := fun vs H Q _ => ∃ (t : Addr) (A : List Pp × Str), vs = [.ref t] ∧ DueAt H t A ∧ Few A.1 ∧ (∀ p ∈ A.1, Gp p) ∧ One A.1 ∧ A.1.length < 64 ∧
  ∀ (x : Addr) (H' : Hp), H x = none → PieceN C H H' x (mergeP A.1) "term" → Same H H' → Q (.ref x) H'
def sp_l_is (C : Addr) : Sp := fun vs H Q _ => ∃ (a c : Addr) (ps : List Pp) (lv : Str), vs = [.ref a, .ref c, .str lv] ∧ PieceAt C H a ps lv ∧ CellsAt H c ps ∧ (∀ p ∈ ps, Gp p) ∧ NoE ps ∧ (tmpl ps).length ≤ 600 ∧
  ∀ H', Same H H' → Q (.bl true) H'
theorem vals_eq : ∀ L : List (Addr × Pp), (L.filter fun q => (valP q.2).isSome).map (fun q => (valP q.2).getD .non) = (L.map (·.2)).filterMap valP
  | [] => rfl
  | (_, .inl _) :: r => vals_eq r
  | (_, .inr ([], v)) :: r => congrArg (v :: ·) (vals_eq r)
  | (_, .inr (c :: k, _)) :: r => vals_eq r
theorem sz_few {ps : List Pp} (f : Few ps) : sz (ps.map pp) < 50000 := by
  have := sz_pp ps
  have := f.2
  omega
theorem gp_tps {ps : List Pp} (h : ∀ p ∈ ps, Gp p) : ∀ q ∈ ps.map pp, TP q := fun q hq => by
  obtain ⟨p, hp, rfl⟩ := List.mem_map.mp hq
  exact (h p hp).tp
theorem pp_oks (ps : List Pp) : ∀ q ∈ ps.map pp, q.ok := fun q hq => by
  obtain ⟨p, _, rfl⟩ := List.mem_map.mp hq
  exact pp_ok p
section
variable {P : Program} {w : World} {K : PySem.W.Frag} {mg : Str → Option Value} {base : Heap} {Z : Ad}
theorem ok_l_text (T : Txt K mg Z) : FnOk P w K mg base CX0 1 Z.a_l_text Z.d_l_text ["_law_parts_here"] sp_template_of := by
  refine T.F_l_text.ok sc_l_text (fun vs H Q E h => ?_) (fun cdv A outer s H vs Q E hr h => ?_)
  · obtain ⟨a, ps, rfl, _⟩ := h
    rfl
  · obtain ⟨a, ps, rfl, ⟨ys, ha, py⟩, few, q⟩ := h
    have nd := sc_l_text.nd
    refine ⟨_, (pss_one (ps_ret (pe_join pe_str (pe_lc (own := [("_law_part", 1)]) rfl nd (pi_list (pv 0)) (blkOk_by (N := N_l_text) (sc := defScope s_l_text) (by decide +kernel)) (fun _ _ _ _ _ => (pg_name (i := 1) nd rfl (Or.inl rfl))) (fun _ _ _ _ _ => pts_nil) (fun _ _ _ _ _ => (Eg.peE (pe_ifExp (pt_cmpR op_eq (pe_ix ix_tup (pv 1) pe_int (fun _ _ => rfl)) pe_str (nomark _)) (pe_ix ix_tup (pv 1) pe_int (fun _ _ => rfl)) (pe_op Es.op_addS (pe_op Es.op_addS pe_str (pe_ix ix_tup (pv 1) pe_int (fun _ _ => rfl))) pe_str)) (by walk_at "blk"))))))), ?_⟩
    refine Eg.w_sig (σ := [some (.ref a), none]) rfl ?_
    walk_at "gw"
    obtain ⟨L, h1, h2, h3⟩ := pps_pairs py
    rw [h1] at ha
    have ll : L.length = ps.length := by rw [← h2, List.length_map]
    have ml : ∀ z ∈ L, (tmplP z.2).length < 40000 := fun z hz => Nat.lt_of_le_of_lt (tmpl_mem (by rw [← h2]; exact List.mem_map.mpr ⟨z, hz, rfl⟩)) few.2
    refine fm_list (xs := L) (G := fun q => .ref q.1) (F := fun q => .str (S (tmplP q.2))) (P := fun _ => true) ha (by have := few.1; omega) (fun R h => ?_) (fun H' z R s' hz h => ?_) (fun H' z R s' hz hp h => ?_) (fun Y H5 hY s5 h5 => ?_)
    · walk_at "go"
      exact h
    · walk_at "go"
      exact h _ (Same.refl _)
    · obtain ⟨t', c⟩ := z
      have ht := s' _ _ (h3 _ hz)
      have := ml _ hz
      cases c with
      | inl l =>
        have ht : H' t' = some (.tup [.str "say", .str (S l)]) := ht
        walk_at "go"
        rw [decide_eq_true (rfl : V.str "say" = V.str "say")]
        walk_at "go"
        exact h _ (Same.refl _)
      | inr x =>
        obtain ⟨k, v⟩ := x
        have ht : H' t' = some (.tup [.str "hole", .str (S k), v]) := ht
        walk_at "go"
        rw [decide_eq_false (show ¬ V.str "hole" = V.str "say" from fun z => absurd (V.str.inj z) (by decide +kernel))]
        have kl : k.length + 2 < 40000 := by
          have e : (tmplP (.inr (k, v))).length = k.length + 2 := by
            show (123 :: (k ++ [125])).length = _
            rw [List.length_cons, List.length_append]
            rfl
          rw [e] at this
          exact this
        walk_at "go"
        refine c_addO (by omega) ?_
        walk_at "go"
        refine c_addC (by rw [List.length_cons]; omega) ?_
        exact h _ (Same.refl _)
    · rw [List.filter_eq_self.mpr fun _ _ => rfl] at h5
      walk_at "go"
      have f1 := few.1
      have f2 := few.2
      refine Es.jn_leaf (ys := (ps.map tmplP).map S) (.inl (SqL.of (by rw [h5, ← h2, List.map_map, List.map_map, List.map_map]; rfl))) ?_ ?_
      · rw [sum_len, tmpl_flat, List.length_map, List.length_map, show ("" : Str).length = 0 by decide +kernel]
        omega
      · rw [join_emp, tmpl_flat]
        exact q H5 s5
theorem ok_l_values (T : Txt K mg Z) : FnOk P w K mg base CX0 1 Z.a_l_values Z.d_l_values ["_law_parts_here"] sp_l_values := by
  refine T.F_l_values.ok sc_l_values (fun vs H Q E h => ?_) (fun cdv A outer s H vs Q E hr h => ?_)
  · obtain ⟨a, ps, rfl, _⟩ := h
    rfl
  · obtain ⟨a, ps, rfl, ⟨ya, ha, pya⟩, few, q⟩ := h
    have nd := sc_l_values.nd
    obtain ⟨L, h1, h2, h3⟩ := pps_pairs pya
    rw [h1] at ha
    have ll : L.length = ps.length := by rw [← h2, List.length_map]
    refine ⟨_, (pss_one (ps_ret (pe_lc (own := [("_law_part", 1)]) rfl nd (pi_list (pv 0)) (blkOk_by (N := N_l_values) (sc := defScope s_l_values) (by decide +kernel)) (fun _ _ _ _ _ => (pg_name (i := 1) nd rfl (Or.inl rfl))) (fun _ _ _ _ _ => (Eg.ptsE (pts_one (PW.pt (pw_and (pt_cmpR op_eq (pe_ix ix_tup (pv 1) pe_int (fun _ _ => rfl)) pe_str (nomark _)) (pw_and1 (pt_cmpR op_eq (pe_ix ix_tup (pv 1) pe_int (fun _ _ => rfl)) pe_str (nomark _)))))) (by walk_at "blk"))) (fun _ _ _ _ _ => (Eg.peE (pe_ix ix_tup (pv 1) pe_int (fun _ _ => rfl)) (by walk_at "blk")))))), ?_⟩
    refine Eg.w_sig (σ := [some (.ref a), none]) rfl ?_
    walk_at "gw"
    refine fm_list (xs := L) (G := fun q => .ref q.1) (F := fun q => (valP q.2).getD .non) (P := fun q => (valP q.2).isSome) ha (by omega) (fun R h => ?_) (fun H' z R s' hz h => ?_) (fun H' z R s' hz hp h => ?_) (fun D H1 hD s1 h1 => ?_)
    · walk_at "go"
      exact h
    · obtain ⟨t', c⟩ := z
      have ht := s' _ _ (h3 _ hz)
      cases c with
      | inl l =>
        have ht : H' t' = some (.tup [.str "say", .str (S l)]) := ht
        walk_at "go"
        rw [d_sh']
        walk_at "go"
        exact h _ (Same.refl _)
      | inr x =>
        obtain ⟨k, v⟩ := x
        have ht : H' t' = some (.tup [.str "hole", .str (S k), v]) := ht
        walk_at "go"
        rw [decide_eq_true (rfl : V.str "hole" = V.str "hole")]
        walk_at "go"
        rw [str_emp]
        cases k with
        | nil => exact h _ (Same.refl _)
        | cons c k => exact h _ (Same.refl _)
    · obtain ⟨t', c⟩ := z
      have ht := s' _ _ (h3 _ hz)
      cases c with
      | inl l => cases hp
      | inr x =>
        obtain ⟨k, v⟩ := x
        have ht : H' t' = some (.tup [.str "hole", .str (S k), v]) := ht
        walk_at "go"
        cases k with
        | nil => exact h _ (Same.refl _)
        | cons c k => cases hp
    · rw [vals_eq, h2] at h1
      walk_at "go"
      exact q D H1 hD h1 s1
theorem ok_l_table (T : Txt K mg Z) : FnOk P w K mg base CX0 1 Z.a_l_table Z.d_l_table ["_law_parts_here"] sp_l_table := by
  refine T.F_l_table.ok sc_l_table (fun vs H Q E h => ?_) (fun cdv A outer s H vs Q E hr h => ?_)
  · obtain ⟨a, ps, rfl, _⟩ := h
    rfl
  · obtain ⟨a, ps, rfl, ⟨ya, ha, pya⟩, few, q⟩ := h
    have nd := sc_l_table.nd
    have hu := hu_of hr
    refine ⟨_, (pss_cons (ps_set (i := 1) nd rfl (Or.inl rfl) pe_dnewK)
  (pss_cons (ps_for PassesOwn.never rfl (pi_list (pv 0)) (pg_name (i := 2) nd rfl (Or.inl rfl))
  (pss_one (ps_if (PW.pt (pw_and (pt_cmpR op_eq (pe_ix ix_tup (pv 2) pe_int (fun _ _ => rfl)) pe_str (nomark _)) (pw_and1 (pt_cmpR op_ne (pe_ix ix_tup (pv 2) pe_int (fun _ _ => rfl)) pe_str (nomark _)))))
  (pss_one (ps_dput hu (pv 1) (pe_ix ix_tup (pv 2) pe_int (fun _ _ => rfl)) (pe_ix ix_tup (pv 2) pe_int (fun _ _ => rfl)) rfl))
  pss_nil)))
  (pss_one (ps_ret (pv 1))))), ?_⟩
    refine Eg.w_sig (σ := [some (.ref a), none, none]) rfl ?_
    have lya := pya.len
    rw [List.length_map] at lya
    walk_at "go"
    intro D hD
    walk_at "go"
    refine for_list (xs := ya) (fun j σ' H' => ∃ v2 : Option V, σ' = [some (.ref a), some (.ref D), v2] ∧ H' D = some (.dK (knownK (ps.take j))) ∧ Same H H') ⟨none, rfl, upd_same, fun c o e => Eg.upd_old e hD⟩ ?_ ?_ ?_
    · rintro j _ H1 _ ⟨v2, rfl, _, s1⟩
      exact SqL.of (s1 _ _ ha)
    · rintro j x _ H1 hx ⟨v2, rfl, h1D, s1⟩
      obtain ⟨p, t, hp, rfl, ht0⟩ := pya.get hx
      rw [List.getElem?_map] at hp
      obtain ⟨c, hc, rfl⟩ := Option.map_eq_some_iff.mp hp
      have kt := knownK_take hc
      have kl := known_len (ps.take j)
      rw [List.length_take] at kl
      have ht := s1 _ _ ht0
      cases c with
      | inl l =>
        have ht : H1 t = some (.tup [.str "say", .str (S l)]) := ht
        walk_at "go"
        rw [d_sh']
        walk_at "go"
        exact ⟨_, rfl, by rw [kt]; exact h1D, s1⟩
      | inr x =>
        obtain ⟨k, v⟩ := x
        have ht : H1 t = some (.tup [.str "hole", .str (S k), v]) := ht
        walk_at "go"
        rw [decide_eq_true (rfl : V.str "hole" = V.str "hole")]
        walk_at "go"
        rw [str_emp]
        cases k with
        | nil =>
          rw [show decide (([] : List Nat) = []) = true from rfl]
          walk_at "go"
          exact ⟨_, rfl, by rw [kt]; exact h1D, s1⟩
        | cons c k =>
          rw [show decide ((c :: k : List Nat) = []) = false from decide_eq_false (fun z => nomatch z)]
          walk_at "go"
          refine ⟨D, _, rfl, .inl ⟨_, .inr (S (c :: k)), h1D, rfl, by rw [sizeLine_eq]; omega, rfl⟩, ?_⟩
          exact ⟨_, rfl, by rw [upd_same, kt]; rfl, Eg.same_mut s1 hD⟩
    · rintro _ H1 ⟨v2, rfl, h1D, s1⟩
      rw [lya, List.take_length] at h1D
      walk_at "go"
      exact q D H1 hD h1D s1
end
end LW
end

section
local macro_rules | `(tactic| walk_at "tx") => `(tactic| first
  | with_reducible refine Pz.w_star ?_
  | ((with_reducible refine' Pz.c_starL ?hs ?_); (case hs => walk_at "hp"))
  | with_reducible refine Pz.w_mkR ?_
  | ((with_reducible refine' Pz.w_mkVar ?hs ?_); (case hs => exact rfl))
  | with_reducible refine Mk.w_prop ?_
  | with_reducible refine Mk.w_methK ?_
  | ((with_reducible refine' Po.c_ownS ?hs ?_); (case hs => walk_at "hp"))
  | ((with_reducible refine' Po.c_ownSR ?hs ?_); (case hs => walk_at "hp"))
  | ((with_reducible refine' Po.c_ownBool ?hs ?_); (case hs => walk_at "hp"))
  | ((with_reducible refine' Po.c_ownSet ?hs ?_); (case hs => walk_at "hp"))
  | with_reducible refine Gn.w_gThen ?_
  | with_reducible refine Gn.w_gFor ?_
  | with_reducible refine Gn.w_gIf ?_
  | with_reducible refine Gn.w_g0 ?_
  | (with_reducible show L2.GEnds.nx _ _ _ _; with_reducible refine Gn.w_gnx ?_)
  | with_reducible refine Po.w_tru ?_
  | ((with_reducible refine' Po.c_truL ?hs ?_); (case hs => walk_at "hp"))
  | ((with_reducible refine' Po.c_boolL ?hs ?_); (case hs => walk_at "sq"))
  | ((with_reducible refine' Ow.c_ownLen ?hs ?_); (case hs => walk_at "hp"))
  | ((with_reducible refine' Ow.c_own2 ?hs ?hz ?_); (case hs => walk_at "hp"); (case hz => walk_at "hp")))
namespace LW
open PySem L2 SX Tx Tl Rp
/-! whether a piece is as it is due; drawn parts -/
section
variable {σ : L2.St} {H : Hp} {K : PySem.W.Frag} {a : Addr} {j : Nat} {ti te : TE} {tt : TT} {Q : VK}
/-- [F p for p in xs if P p], the results new tuples -/
theorem objs_listF {α : Type} {xs : List α} {G : α → V} {F : α → Pc} {P : α → Bool} (ha : H a = some (.lst (xs.map G))) (hsz : xs.length < 100000)
    (hi : ∀ R : VK, R (.ref a) H → ti σ H R)
    (test : ∀ (H' : Hp) (z : α) (R : Bool → Hp → Prop), Same H H' → z ∈ xs → R (P z) H' → tt ((wipe σ [j]).set j (some (G z))) H' R)
    (elt : ∀ (H' : Hp) (z : α) (R : VK), Same H H' → z ∈ xs → P z = true → (∀ H'' t, Same H' H'' → H'' t = some (.tup (F z).vs) → R (.ref t) H'') → te ((wipe σ [j]).set j (some (G z))) H' R)
    (done : ∀ (D : Addr) (H' : Hp) (zs : List V), H D = none → Same H H' → H' D = some (.lst zs) → PcsAt H' zs ((xs.filter P).map F) → Q (.ref D) H') : tLc (iList K ti) (gName j) tt te [j] σ H Q := by
  refine Eg.w_lc (Eg.w_iL (hi _ (Eg.c_iL (SqL.of ha) ?_)))
  intro D hD
  refine lc_list (xs := xs.map G) (fun n H' => Same H H' ∧ ∃ zs, H' D = some (.lst zs) ∧ PcsAt H' zs (((xs.take n).filter P).map F)) ⟨Eg.same_new (Same.refl _) hD, [], upd_same, .nil⟩ (fun n H' _ h => SqL.of (h.1 _ _ ha)) ?_ ?_
  · rintro n x H1 hx ⟨s1, zs, h2, pz⟩
    rw [List.getElem?_map] at hx
    obtain ⟨z, hz, rfl⟩ := Option.map_eq_some_iff.mp hx
    obtain ⟨hlt, he⟩ := List.getElem?_eq_some_iff.mp hz
    have zl := pz.len
    have fl := List.length_filter_le P (xs.take n)
    rw [List.length_map] at zl
    rw [List.length_take] at fl
    refine Eg.w_gN (Eg.w_wipe ?_ (test H1 z _ s1 (List.mem_of_getElem? hz) ?_))
    · show (((σ.set j none).set j (some (G z))).set j none) = σ.set j none
      rw [List.set_set, List.set_set]
    · cases hp : P z with
      | true =>
        refine iteT (elt H1 z _ s1 (List.mem_of_getElem? hz) hp fun H2 t s2 ht => ⟨_, s2 _ _ h2, ?_, Eg.same_mut (s1.trans s2) hD, _, upd_same, ?_⟩)
        · rw [sizeLine_eq]
          omega
        · have h2D := s2 _ _ h2
          rw [List.take_succ_eq_append_getElem hlt, he, List.filter_append, List.filter_cons_of_pos hp, List.filter_nil, List.map_append]
          refine PcsAt.app (PcsAt.same (fun b ys e => ?_) pz) (PcsAt.one ?_)
          · exact Eg.upd_mut (ne_of (s2 _ _ e) h2D (fun z => nomatch z)) (s2 _ _ e)
          · exact Eg.upd_mut (ne_of ht h2D (fun z => nomatch z)) ht
      | false =>
        refine iteF ⟨s1, zs, h2, ?_⟩
        rw [List.take_succ_eq_append_getElem hlt, he, List.filter_append, List.filter_cons_of_neg (by rw [hp]; exact Bool.false_ne_true), List.filter_nil, List.append_nil]
        exact pz
  · rintro H1 ⟨s1, zs, h2, pz⟩
    rw [List.length_map, List.take_length] at pz
    exact done D H1 zs hD s1 h2 pz
end
def hoQ : Pp → Pc | .inr x => hoP x | _ => .say []
theorem hoQ_eq : ∀ L : List (Addr × Pp), (L.filter fun q => holeP q.2).map (fun q => hoQ q.2) = (holesP (L.map (·.2))).map hoP
  | [] => rfl
  | (_, .inl _) :: r => hoQ_eq r
  | (_, .inr x) :: r => congrArg (hoP x :: ·) (hoQ_eq r)
theorem codes_tmpl {ps : List Pp} (h : ∀ p ∈ ps, Gp p) : ∀ c ∈ tmpl ps, c < 16 ^ 8 := fun c hc => by
  obtain ⟨p, hp, hc⟩ := List.mem_flatMap.mp hc
  have g := h p hp
  cases p with
  | inl l => exact Nat.lt_of_le_of_lt (lit_rng (List.all_eq_true.mp g c hc)).2 (by decide)
  | inr x =>
    obtain ⟨k, v⟩ := x
    have hc : c ∈ 123 :: (k ++ [125]) := hc
    rcases List.mem_cons.mp hc with rfl | hc
    · decide
    · rcases List.mem_append.mp hc with hc | hc
      · exact Nat.lt_of_le_of_lt (label_rng g.1 c hc).2 (by decide)
      · rw [List.mem_singleton.mp hc]
        decide
section
variable {P : Program} {w : World} {K : PySem.W.Frag} {mg : Str → Option Value} {base : Heap} {Z : Ad}
set_option maxHeartbeats 8000000 in
theorem ok_l_is (T : Txt K mg Z) : Gd.FnG P w K mg base CX0 7 Z.a_l_is Z.d_l_is ["_law_piece", "_law_parts_here", "_law_level"] (sp_l_is Z.c_Piece) := by
  refine Gd.Fun.okG T.F_l_is sc_l_is (fun vs H Q E h => ?_) (fun cdv A outer s H vs Q E hr stl h => ?_)
  · obtain ⟨a, c, ps, lv, rfl, _⟩ := h
    rfl
  · obtain ⟨a, c, ps, lv, rfl, hP, ⟨ys, hc, py⟩, g, ne, few, q⟩ := h
    have nd := sc_l_is.nd
    have hu := hu_of hr
    have cP := T.cl_Piece
    have n1 := T.n_Piece_text
    have n2 := T.n_Piece_level
    obtain ⟨dx, ca, ho, _⟩ := id hP
    have lk1 := lk_pt ca lv (S (tmpl ps))
    have lk2 := lk_pl ca lv (S (tmpl ps))
    have tp := gp_tps g
    have pl := noE_len ne
    have ko := (ok_parts g ne).mono (k' := 60) (N' := 80000) (by decide) (by omega)
    have kh := (ok_holes g).mono (k' := 60) (N' := 80000) (by decide) (by omega)
    obtain ⟨L, h1, h2, h3⟩ := pps_pairs py
    have ll : L.length = ps.length := by rw [← h2, List.length_map]
    refine ⟨_, (pss_cons (ps_if (PW.pt (pw_or (pt_cmpR op_ne (pe_callB (Rv.cr_reprV stl (Gd.u70 hr)) (by rfl) T.u_repr (by decide +kernel) (pa_cons (pe_prop (pv 0) T.cl_Piece T.p_Piece_parts (ok_Piece_parts T) (hr.mono (by decide)) T.b_Piece_parts .nil pass0 rfl) pa_nil)) (pe_callB (Rv.cr_reprV stl (Gd.u70 hr)) (by rfl) T.u_repr (by decide +kernel) (pa_cons (pe_callTy Eg.cr_tup (by rfl) T.u_tuple (by decide +kernel) (pa_cons (pv 1) pa_nil)) pa_nil)) (nomark _)) (pw_or1 (pt_cmpR op_ne (pe_callB (Rv.cr_reprV stl (Gd.u70 hr)) (by rfl) T.u_repr (by decide +kernel) (pa_cons (pe_fld (pv 0) rfl) pa_nil)) (pe_callB (Rv.cr_reprV stl (Gd.u70 hr)) (by rfl) T.u_repr (by decide +kernel) (pa_cons (pe_call (ok_l_text T) (hr.mono (by decide)) (by rfl) T.g_l_text T.F_l_text.kp T.b_l_text .nil pass0 (pa_cons (pv 1) pa_nil)) pa_nil)) (nomark _)))))
  (pss_one (ps_ret pe_bl))
  pss_nil)
  (pss_cons (ps_setLc (i := 3) (own := [("_law_part", 4)]) rfl nd rfl rfl (sw_true rfl rfl rfl (by decide +kernel)) (pi_list (pv 1)) (blkOk_by (N := N_l_is) (sc := defScope s_l_is) (by decide +kernel)) (fun _ _ _ _ _ => (pg_name (i := 4) nd rfl (Or.inl rfl))) (fun _ _ _ _ _ => (Eg.ptsE (pts_one (pt_cmpR op_eq (pe_ix ix_tup (pv 4) pe_int (fun _ _ => rfl)) pe_str (nomark _))) (by walk_at "blk"))) (fun _ _ _ _ _ => (Eg.peE (pe_tup (pa_cons (pe_ix ix_tup (pv 4) pe_int (fun _ _ => rfl)) (pa_cons (pe_ix ix_tup (pv 4) pe_int (fun _ _ => rfl)) pa_nil))) (by walk_at "blk"))))
  (pss_cons (ps_if (PW.pt (pw_or (pt_cmpR op_ne (pe_callB (Rv.cr_reprV stl (Gd.u70 hr)) (by rfl) T.u_repr (by decide +kernel) (pa_cons (pe_listG (pgen_meth0 (pv 0) T.cl_Piece T.m_Piece_holes (ok_Piece_holes T) (hr.mono (by decide)) T.b_Piece_holes .nil) Gn.pass_gen Gn.noStop0 (hr.mono (by decide)) (by rfl) T.u_list (by decide +kernel)) pa_nil)) (pe_callB (Rv.cr_reprV stl (Gd.u70 hr)) (by rfl) T.u_repr (by decide +kernel) (pa_cons (pv 3) pa_nil)) (nomark _)) (pw_or1 (pt_cmpR op_ne (pe_callB (Rv.cr_reprV stl (Gd.u70 hr)) (by rfl) T.u_repr (by decide +kernel) (pa_cons (pe_callB (Ow.cr_ownLen (ok_Piece_len T) (hr.mono (by decide)) T.m_Piece_len T.b_Piece_len pass0) (by rfl) T.u_len (by decide +kernel) (pa_cons (pv 0) pa_nil)) pa_nil)) (pe_callB (Rv.cr_reprV stl (Gd.u70 hr)) (by rfl) T.u_repr (by decide +kernel) (pa_cons (pe_callB Eg.cr_len (by rfl) T.u_len (by decide +kernel) (pa_cons (pv 3) pa_nil)) pa_nil)) (nomark _)))))
  (pss_one (ps_ret pe_bl))
  pss_nil)
  (pss_one (ps_ret (pe_and (pe_cmpR op_eq (pe_fld (pv 0) rfl) (pv 2) (nomark _)) (pe_one (pe_cmpR op_eq (pe_callTy (Po.cr_ownBool (ok_Piece_bool T) (hr.mono (by decide)) T.m_Piece_bool T.b_Piece_bool pass0) (by rfl) T.u_bool (by decide +kernel) (pa_cons (pv 0) pa_nil)) (pe_cmpR (Tw.op_neE (Nat.lt_of_succ_lt hu)) (pv 1) (pe_lst pa_nil) (nomark _)) (nomark _))))))))), ?_⟩
    refine Eg.w_sig (σ := [some (.ref a), some (.ref c), some (.str lv), none, none]) rfl ?_
    walk_at "go"
    refine Mk.c_prop ho ⟨a, ps, lv, rfl, hP, fun p zs H1 hp h1p pz s1 => ?_⟩
    walk_at "go"
    refine Rv.c_reprD (dp_fill h1p pz tp) ko (Nat.le_refl _) ?_
    have h1c := s1 _ _ hc
    walk_at "go"
    refine Eg.c_tupL (SqL.of h1c) fun u hu' => ?_
    have h2u : upd H1 u (.tup ys) u = some (.tup ys) := upd_same
    have s2 : Same H1 (upd H1 u (.tup ys)) := fun b o e => Eg.upd_old e hu'
    generalize upd H1 u (.tup ys) = H2 at h2u s2 ⊢
    have s02 := s1.trans s2
    refine Rv.c_reprD (dp_fill h2u (py.same fun b zs e => s02 _ _ e) tp) ko (Nat.le_refl _) ?_
    walk_at "go"
    rw [decide_eq_true rfl]
    have h2o := s02 _ _ ho
    walk_at "go"
    refine Rv.c_reprS (by omega) (codes_tmpl g) ?_
    walk_at "go"
    refine ⟨c, ps, rfl, CellsAt.keep ⟨ys, hc, py⟩ s02, ⟨by omega, by omega⟩, fun H3 s3 => ?_⟩
    have s03 := s02.trans s3
    refine Rv.c_reprS (by omega) (codes_tmpl g) ?_
    walk_at "go"
    rw [decide_eq_true rfl]
    have h3o := s03 _ _ ho
    have h3c := s03 _ _ hc
    rw [h1] at h3c
    walk_at "gw"
    refine objs_listF (xs := L) (G := fun q => .ref q.1) (F := fun q => hoQ q.2) (P := fun q => holeP q.2) h3c (by omega) (fun R h => ?_) (fun H' z R s' hz h => ?_) (fun H' z R s' hz hp h => ?_) (fun D H4 ws hD s4 h4 pw => ?_)
    · walk_at "go"
      exact h
    · obtain ⟨t', c⟩ := z
      have ht := (s03.trans s') _ _ (h3 _ hz)
      cases c with
      | inl l =>
        have ht : H' t' = some (.tup [.str "say", .str (S l)]) := ht
        walk_at "go"
        rw [d_sh']
        exact h
      | inr x =>
        obtain ⟨k, v⟩ := x
        have ht : H' t' = some (.tup [.str "hole", .str (S k), v]) := ht
        walk_at "go"
        rw [decide_eq_true (rfl : V.str "hole" = V.str "hole")]
        exact h
    · obtain ⟨t', c⟩ := z
      have ht := (s03.trans s') _ _ (h3 _ hz)
      cases c with
      | inl l => cases hp
      | inr x =>
        obtain ⟨k, v⟩ := x
        have ht : H' t' = some (.tup [.str "hole", .str (S k), v]) := ht
        walk_at "go"
        intro t9 ht9
        exact h _ _ (fun b o e => Eg.upd_old e ht9) upd_same
    rw [hoQ_eq, h2] at pw
    have s04 := s03.trans s4
    have h4o := s04 _ _ ho
    have tvh : ∀ x ∈ holesP ps, TV x.2 := fun x hx => TV.of (g _ (holes_mem.mp hx)).2.2
    walk_at "go"
    refine Gn.w_listG rfl h4o (by rfl) ⟨a, ps, lv, rfl, hP.keep s04, by omega, fun zs5 H5 pz5 s5 p5 hp5 => ?_⟩
    have h6p : upd H5 p5 (.lst zs5) p5 = some (.lst zs5) := upd_same
    have s6 : Same H5 (upd H5 p5 (.lst zs5)) := fun b o e => Eg.upd_old e hp5
    generalize upd H5 p5 (.lst zs5) = H6 at h6p s6 ⊢
    have s46 := s5.trans s6
    have s06 := s04.trans s46
    have h6D := s46 _ _ h4
    have pw6 := pw.same fun b zs e => s46 _ _ e
    walk_at "go"
    refine Rv.c_reprD (.lst (SqL.of h6p) (dp_holes (pz5.same fun b zs e => s6 _ _ e) tvh)) kh (Nat.le_refl _) ?_
    walk_at "go"
    refine Rv.c_reprD (.lst (SqL.of h6D) (dp_holes pw6 tvh)) kh (Nat.le_refl _) ?_
    walk_at "go"
    rw [decide_eq_true rfl]
    have h6o := s06 _ _ ho
    have hwl := holes_w ps
    have wl := pw.len
    rw [List.length_map] at wl
    walk_at "go"
    refine ⟨a, ps, lv, rfl, hP.keep s06, by omega, fun H7 s7 => ⟨_, rfl, by omega, by omega, ?_⟩⟩
    have h7D := s7 _ _ h6D
    walk_at "go"
    refine Rv.c_reprI (by omega) ?_
    walk_at "go"
    rw [wl]
    refine Rv.c_reprI (by omega) ?_
    walk_at "go"
    rw [decide_eq_true rfl]
    have s07 := s06.trans s7
    have h7o := s07 _ _ ho
    walk_at "go"
    rw [decide_eq_true rfl]
    walk_at "go"
    refine ⟨a, ps, lv, rfl, hP.keep s07, _, rfl, ?_⟩
    walk_at "go"
    intro e0 he0
    have h8e : upd H7 e0 (.lst []) e0 = some (.lst []) := upd_same
    have s8 : Same H7 (upd H7 e0 (.lst [])) := fun b o e => Eg.upd_old e he0
    generalize upd H7 e0 (.lst []) = H8 at h8e s8 ⊢
    refine Tw.c_neE (s8 _ _ (s07 _ _ hc)) h8e ?_
    rw [pcs_empty py]
    walk_at "go"
    rw [decide_eq_true rfl]
    exact q H8 (s07.trans s8)
end
end LW
end

section
local macro_rules | `(tactic| walk_at "tx") => `(tactic| first
  | with_reducible refine Pz.w_star ?_
  | ((with_reducible refine' Pz.c_starL ?hs ?_); (case hs => walk_at "hp"))
  | with_reducible refine Pz.w_mkR ?_
  | ((with_reducible refine' Pz.w_mkVar ?hs ?_); (case hs => exact rfl))
  | with_reducible refine Mk.w_prop ?_
  | with_reducible refine Mk.w_methK ?_
  | ((with_reducible refine' Po.c_ownS ?hs ?_); (case hs => walk_at "hp"))
  | ((with_reducible refine' Po.c_ownSR ?hs ?_); (case hs => walk_at "hp"))
  | ((with_reducible refine' Po.c_ownBool ?hs ?_); (case hs => walk_at "hp"))
  | ((with_reducible refine' Po.c_ownSet ?hs ?_); (case hs => walk_at "hp"))
  | with_reducible refine Gn.w_gThen ?_
  | with_reducible refine Gn.w_gFor ?_
  | with_reducible refine Gn.w_gIf ?_
  | with_reducible refine Gn.w_g0 ?_
  | (with_reducible show L2.GEnds.nx _ _ _ _; with_reducible refine Gn.w_gnx ?_)
  | with_reducible refine Po.w_tru ?_
  | ((with_reducible refine' Po.c_truL ?hs ?_); (case hs => walk_at "hp"))
  | ((with_reducible refine' Po.c_boolL ?hs ?_); (case hs => walk_at "sq"))
  | ((with_reducible refine' Ow.c_ownLen ?hs ?_); (case hs => walk_at "hp"))
  | ((with_reducible refine' Ow.c_own2 ?hs ?hz ?_); (case hs => walk_at "hp"); (case hz => walk_at "hp")))
namespace LW
open PySem L2 SX Tx Tl Rp
/-! drawn parts -/
theorem BagB.ne {H : Hp} {a p : Addr} (h : BagB H a) (hp : H p = none) : p ≠ a := by
  obtain ⟨xs, e⟩ := h.ob
  exact (ne_of_none e hp).symm
theorem KeptB.free {b p : Addr} {H H' : Hp} (h : KeptB b H H') (hn : p ≠ b) (hp : H' p = none) : H p = none := by
  cases e : H p with
  | none => rfl
  | some o =>
    rw [h p o e hn] at hp
    cases hp
theorem pcs_keptB {a : Addr} {H H' : Hp} {ys : List V} {ps : List Pc} (hb : BagB H a) (k : KeptB a H H') (h : PcsAt H ys ps) : PcsAt H' ys ps := h.same fun b zs e => k b _ e (by
  rintro rfl
  obtain ⟨xs, e2⟩ := hb.ob
  rw [e] at e2
  cases e2)
/-- the labels of parts have the values of a table -/
def Drn (ls : List (List Nat)) (zs : List V) (ps : List Pp) : Prop := ∀ k v, k ≠ [] → Sum.inr (k, v) ∈ ps → ∃ i : Nat, ls[i]? = some k ∧ zs[i]? = some v
theorem Drn.one {ls : List (List Nat)} {zs : List V} {a b : List Pp} (nd : ls.Nodup) (h : Drn ls zs a) (h' : Drn ls zs b) : NoClash a b := by
  intro k v w hk hv hw
  obtain ⟨i, hi, zi⟩ := h k v hk hv
  obtain ⟨j, hj, zj⟩ := h' k w hk hw
  obtain ⟨li, ei⟩ := List.getElem?_eq_some_iff.mp hi
  obtain ⟨lj, ej⟩ := List.getElem?_eq_some_iff.mp hj
  have : i = j := by
    rcases Nat.lt_trichotomy i j with h | h | h
    · exact absurd (ei.trans ej.symm) (List.pairwise_iff_getElem.mp nd i j li lj h)
    · exact h
    · exact absurd (ej.trans ei.symm) (List.pairwise_iff_getElem.mp nd j i lj li h)
  subst this
  rw [zi] at zj
  exact Option.some.inj zj
theorem Drn.merge {ls : List (List Nat)} {zs : List V} {ps : List Pp} (h : Drn ls zs ps) : Drn ls zs (mergeP ps) := fun k v hk hv => h k v hk (merge_mem hv)
theorem drn_snoc {ls : List (List Nat)} {zs : List V} {ps : List Pp} {p : Pp} (h : Drn ls zs ps) (hp : Drn ls zs [p]) : Drn ls zs (ps ++ [p]) := fun k v hk hv => by
  rcases List.mem_append.mp hv with hv | hv
  · exact h k v hk hv
  · exact hp k v hk hv
def sp_l_parts : Sp := fun vs H Q _ => ∃ (a b : Addr) (ls : List (List Nat)) (n : Nat), vs = [.ref a, .ref b, .int (n : Int)] ∧ BagB H a ∧ H b = some (.lst (ls.map fun l => V.str (S l))) ∧ b ≠ a ∧ ls.length ≤ 26 ∧ (∀ l ∈ ls, labelB l = true ∧ l.length ≤ 14) ∧ n ≤ 40 ∧
  ∀ (p : Addr) (ps : List Pp) (zs : List V) (H' : Hp), H p = none → p ≠ a → CellsAt H' p ps → (∀ p ∈ ps, Gp p) → Drn ls zs ps → mergeP ps = ps → ps.length ≤ n → (tmpl ps).length ≤ 16 * n → BagB H' a → KeptB a H H' → Q (.ref p) H'
section
variable {P : Program} {w : World} {K : PySem.W.Frag} {mg : Str → Option Value} {base : Heap} {Z : Ad}
set_option maxHeartbeats 8000000 in
theorem ok_l_parts (T : Txt K mg Z) : FnOk P w K mg base CX0 4 Z.a_l_parts Z.d_l_parts ["_law_bag_here", "_law_labels_here", "_law_most"] sp_l_parts := by
  refine T.F_l_parts.ok sc_l_parts (fun vs H Q E h => ?_) (fun cdv A outer s H vs Q E hr h => ?_)
  · obtain ⟨a, b, ls, n, rfl, _⟩ := h
    rfl
  · obtain ⟨a, b, ls, n, rfl, hb, h0b, hba, lsl, lok, hn, q⟩ := h
    have nd := sc_l_parts.nd
    have hu := hu_of hr
    refine ⟨_, (pss_cons (ps_setLc (i := 3) (own := [("_law_label", 8)]) rfl nd rfl rfl (sw_true rfl rfl rfl (by decide +kernel)) (pi_list (pv 1)) (blkOk_by (N := N_l_parts) (sc := defScope s_l_parts) (by decide +kernel)) (fun _ _ _ _ _ => (pg_name (i := 8) nd rfl (Or.inl rfl))) (fun _ _ _ _ _ => pts_nil) (fun _ _ _ _ _ => (Eg.peE (pe_call (ok_l_value T) (hr.mono (by decide)) (by rfl) T.g_l_value T.F_l_value.kp T.b_l_value .nil pass0 (pa_cons (pv 0) pa_nil)) (by walk_at "blk"))))
  (pss_cons (ps_set (i := 4) nd rfl (Or.inl rfl) (pe_lst pa_nil))
  (pss_cons (ps_for PassesOwn.never rfl (pi_range1 (by rfl) T.u_range (pa_cons (pe_call (ok_l_take T) (hr.mono (by decide)) (by rfl) T.g_l_take T.F_l_take.kp T.b_l_take .nil pass0 (pa_cons (pv 0) (pa_cons (pe_op op_add (pv 2) pe_int) pa_nil))) pa_nil)) (pg_name (i := 5) nd rfl (Or.inl rfl))
  (pss_cons (ps_set (i := 6) nd rfl (Or.inl rfl) (pe_call (ok_l_take T) (hr.mono (by decide)) (by rfl) T.g_l_take T.F_l_take.kp T.b_l_take .nil pass0 (pa_cons (pv 0) (pa_cons pe_int pa_nil))))
  (pss_one (ps_if (pt_cmpR op_lt (pv 6) pe_int (nomark _))
  (pss_one (ps_expr (pe_bm PySem.F.plainAttrs_list PySem.F.slot_list_append PySem.F.type_list_append mt_append (pv 4) (pa_cons (pe_tup (pa_cons pe_str (pa_cons (pe_call (ok_l_literal T) (hr.mono (by decide)) (by rfl) T.g_l_literal T.F_l_literal.kp T.b_l_literal .nil pass0 (pa_cons (pv 0) (pa_cons pe_int pa_nil))) pa_nil))) pa_nil))))
  (pss_one (ps_if (PW.pt (pw_or (pt_cmpR op_eq (pv 6) pe_int (nomark _)) (pw_or1 (pt_cmpR (Tw.op_eqE (Nat.lt_of_succ_lt hu)) (pv 1) (pe_lst pa_nil) (nomark _)))))
  (pss_one (ps_expr (pe_bm PySem.F.plainAttrs_list PySem.F.slot_list_append PySem.F.type_list_append mt_append (pv 4) (pa_cons (pe_tup (pa_cons pe_str (pa_cons pe_str (pa_cons (pe_call (ok_l_value T) (hr.mono (by decide)) (by rfl) T.g_l_value T.F_l_value.kp T.b_l_value .nil pass0 (pa_cons (pv 0) pa_nil)) pa_nil)))) pa_nil))))
  (pss_cons (ps_set (i := 7) nd rfl (Or.inl rfl) (pe_call (ok_l_take T) (hr.mono (by decide)) (by rfl) T.g_l_take T.F_l_take.kp T.b_l_take .nil pass0 (pa_cons (pv 0) (pa_cons (pe_callB Eg.cr_len (by rfl) T.u_len (by decide +kernel) (pa_cons (pv 1) pa_nil)) pa_nil))))
  (pss_one (ps_expr (pe_bm PySem.F.plainAttrs_list PySem.F.slot_list_append PySem.F.type_list_append mt_append (pv 4) (pa_cons (pe_tup (pa_cons pe_str (pa_cons (pe_ix ix_list (pv 1) (pv 7) (fun _ _ => rfl)) (pa_cons (pe_ix ix_list (pv 3) (pv 7) (fun _ _ => rfl)) pa_nil)))) pa_nil)))))))))))
  (pss_one (ps_ret (pe_call (ok_l_merged T) (hr.mono (by decide)) (by rfl) T.g_l_merged T.F_l_merged.kp T.b_l_merged .nil pass0 (pa_cons (pv 4) pa_nil))))))), ?_⟩
    refine Eg.w_sig (σ := [some (.ref a), some (.ref b), some (.int (n : Int)), none, none, none, none, none, none]) rfl ?_
    walk_at "gw"
    refine Eg.w_lc (Eg.w_iL ?_)
    walk_at "go"
    intro D hD
    have hDa := hb.ne hD
    have fD : ∀ c o, H c = some o → c ≠ D := fun c o e => ne_of_none e hD
    refine lc_list (xs := ls.map fun l => V.str (S l)) (fun j H' => ∃ zs : List V, H' D = some (.lst zs) ∧ zs.length = j ∧ (∀ z ∈ zs, DV z) ∧ BagB H' a ∧ KeptB a H H') ⟨[], upd_same, rfl, (fun _ z => nomatch z), hb.to (upd_ne hDa.symm), fun c o e n => Eg.upd_old e hD⟩ (fun j H' _ h => ?_) ?_ ?_
    · obtain ⟨zs, _, _, _, _, k⟩ := h
      exact SqL.of (k _ _ h0b hba)
    · rintro j x H1 hx ⟨zs, h1D, zl, zok, hb1, k1⟩
      obtain ⟨hlt, _⟩ := List.getElem?_eq_some_iff.mp hx
      rw [List.length_map] at hlt
      walk_at "go"
      refine ⟨a, rfl, hb1, fun v H2 hv hb2 k2 => ?_⟩
      have h2D := k2 _ _ h1D hDa
      walk_at "go"
      refine ⟨zs ++ [v], upd_same, by rw [List.length_append, zl]; rfl, fun x hx => ?_, hb2.to (upd_ne hDa.symm), fun c o e n => Eg.upd_mut (fD c o e) (k2 _ _ (k1 c o e n) n)⟩
      rcases List.mem_append.mp hx with hx | hx
      · exact zok x hx
      · rw [List.mem_singleton.mp hx]
        exact hv
    rintro H1 ⟨zs, h1D, zl, zok, hb1, k1⟩
    rw [List.length_map] at zl
    have h1b := k1 _ _ h0b hba
    walk_at "go"
    intro F hF
    have hFa := hb1.ne hF
    have hFD : F ≠ D := (ne_of_none h1D hF).symm
    have hFb : F ≠ b := (ne_of_none h1b hF).symm
    have F0 : H F = none := k1.free hFa hF
    have fF : ∀ c o, H c = some o → c ≠ F := fun c o e => ne_of_none e F0
    have h2F : upd H1 F (.lst []) F = some (.lst []) := upd_same
    have h2D : upd H1 F (.lst []) D = some (.lst zs) := Eg.upd_mut hFD.symm h1D
    have h2b : upd H1 F (.lst []) b = some (.lst (ls.map fun l => V.str (S l))) := Eg.upd_mut hFb.symm h1b
    have hb2 : BagB (upd H1 F (.lst [])) a := hb1.to (upd_ne hFa.symm)
    have k2 : KeptB a H (upd H1 F (.lst [])) := fun c o e n => Eg.upd_mut (fF c o e) (k1 c o e n)
    generalize upd H1 F (.lst []) = H2 at h2F h2D h2b hb2 k2 ⊢
    walk_at "go"
    refine ⟨a, _, rfl, hb2, by omega, by omega, fun r H3 r0 r1 hb3 f3 => ?_⟩
    have h3F := (f3 F hFa).trans h2F
    have h3D := (f3 D hDa).trans h2D
    have h3b := (f3 b hba).trans h2b
    have k3 := k2.trans (.fr f3)
    walk_at "go"
    refine for_range (lo := 0) (fun i σ' H' => ∃ (ps : List Pp) (v5 v6 v7 : Option V), σ' = [some (.ref a), some (.ref b), some (.int (n : Int)), some (.ref D), some (.ref F), v5, v6, v7, none] ∧ CellsAt H' F ps ∧ (∀ p ∈ ps, Gp p) ∧ Drn ls zs ps ∧ ps.length ≤ i ∧ (tmpl ps).length ≤ 16 * i ∧ H' D = some (.lst zs) ∧ H' b = some (.lst (ls.map fun l => V.str (S l))) ∧ BagB H' a ∧ KeptB a H H')
      ⟨[], none, none, none, rfl, ⟨[], h3F, .nil⟩, (fun _ z => nomatch z), (fun _ _ _ z => nomatch z), Nat.le_refl _, Nat.zero_le _, h3D, h3b, hb3, k3⟩ ?_ ?_
    · rintro i _ H4 hi ⟨ps, v5, v6, v7, rfl, ⟨ys, h4F, py⟩, gps, dps, pl, tl, h4D, h4b, hb4, k4⟩
      have i40 : i < 40 := by omega
      have yl := py.len
      rw [List.length_map] at yl
      have fin : ∀ (H5 : Hp) (tt : Addr) (p : Pp), KeptB a H4 H5 → BagB H5 a → H5 tt = some (.tup (pp p).vs) → Gp p → Drn ls zs [p] → (tmplP p).length ≤ 16 → ∀ u6 u7 : Option V, ∃ (ps : List Pp) (v5 v6 v7 : Option V), ([some (.ref a), some (.ref b), some (.int (n : Int)), some (.ref D), some (.ref F), some (.int (0 + (i : Int))), u6, u7, none] : L2.St) = [some (.ref a), some (.ref b), some (.int (n : Int)), some (.ref D), some (.ref F), v5, v6, v7, none] ∧ CellsAt (upd H5 F (.lst (ys ++ [.ref tt]))) F ps ∧ (∀ p ∈ ps, Gp p) ∧ Drn ls zs ps ∧ ps.length ≤ i + 1 ∧ (tmpl ps).length ≤ 16 * (i + 1) ∧ upd H5 F (.lst (ys ++ [.ref tt])) D = some (.lst zs) ∧ upd H5 F (.lst (ys ++ [.ref tt])) b = some (.lst (ls.map fun l => V.str (S l))) ∧ BagB (upd H5 F (.lst (ys ++ [.ref tt]))) a ∧ KeptB a H (upd H5 F (.lst (ys ++ [.ref tt]))) := fun H5 tt p k5 hb5 h5t gp dp tp u6 u7 => by
        have h5F := k5 _ _ h4F hFa
        refine ⟨ps ++ [p], some (.int (0 + (i : Int))), u6, u7, rfl, ⟨_, upd_same, ?_⟩, fun x hx => ?_, drn_snoc dps dp, by rw [List.length_append]; exact Nat.succ_le_succ pl, ?_, Eg.upd_mut hFD.symm (k5 _ _ h4D hDa), Eg.upd_mut hFb.symm (k5 _ _ h4b hba), hb5.to (upd_ne hFa.symm), fun c o e n => Eg.upd_mut (fF c o e) (k5 _ _ (k4 c o e n) n)⟩
        · rw [List.map_append]
          exact PcsAt.app ((pcs_keptB hb4 k5 py).same fun b zs e => Eg.upd_mut (ne_of e h5F (fun z => nomatch z)) e) (PcsAt.one (p := pp p) (Eg.upd_mut (ne_of h5t h5F (fun z => nomatch z)) h5t))
        · rcases List.mem_append.mp hx with hx | hx
          · exact gps x hx
          · rw [List.mem_singleton.mp hx]
            exact gp
        · rw [tmpl_app, List.length_append]
          show _ + (tmplP p ++ []).length ≤ _
          rw [List.append_nil]
          omega
      walk_at "go"
      refine ⟨a, _, rfl, hb4, by decide, by decide, fun r2 H5 r20 r21 hb5 f5 => ?_⟩
      have k5 : KeptB a H4 H5 := .fr f5
      have h5F := k5 _ _ h4F hFa
      have h5b := k5 _ _ h4b hba
      have h5D := k5 _ _ h4D hDa
      walk_at "go"
      refine Eg.brD (fun e => ?_) (fun e => ?_)
      · walk_at "go"
        refine ⟨a, _, rfl, hb5, by decide, by decide, fun l H6 hl ll hb6 k6 => ?_⟩
        have h6F := k6 _ _ h5F hFa
        walk_at "go"
        intro tt htt
        have h7t : upd H6 tt (.tup [.str "say", .str (S l)]) tt = some (.tup (pp (.inl l)).vs) := upd_same
        have s7 : Same H6 (upd H6 tt (.tup [.str "say", .str (S l)])) := fun c o e => Eg.upd_old e htt
        generalize upd H6 tt (.tup [.str "say", .str (S l)]) = H7 at h7t s7 ⊢
        have h7F := s7 _ _ h6F
        walk_at "go"
        exact fin H7 tt (.inl l) ((k5.trans k6).trans (.of s7)) (hb6.keep s7) h7t hl (fun _ _ _ z => by rcases List.mem_cons.mp z with z | z <;> cases z) (by show l.length ≤ 16; omega) _ _
      walk_at "go"
      rw [Eg.int_eq]
      refine Eg.brD (fun e2 => ?_) (fun e2 => ?_)
      · walk_at "go"
        refine ⟨a, rfl, hb5, fun v H7 hv hb7 k7 => ?_⟩
        have h7F := k7 _ _ h5F hFa
        walk_at "go"
        intro tt htt
        rw [show ("" : Str) = S [] by decide +kernel]
        have h8t : upd H7 tt (.tup [.str "hole", .str (S []), v]) tt = some (.tup (pp (.inr ([], v))).vs) := upd_same
        have s8 : Same H7 (upd H7 tt (.tup [.str "hole", .str (S []), v])) := fun c o e => Eg.upd_old e htt
        generalize upd H7 tt (.tup [.str "hole", .str (S []), v]) = H8 at h8t s8 ⊢
        have h8F := s8 _ _ h7F
        walk_at "go"
        exact fin H8 tt (.inr ([], v)) ((k5.trans k7).trans (.of s8)) (hb7.keep s8) h8t ⟨.inl rfl, Nat.zero_le _, hv⟩ (fun k u hk z => by
          cases List.mem_singleton.mp z
          exact absurd rfl hk) (Nat.le_of_ble_eq_true rfl) _ _
      walk_at "go"
      intro e0 he0
      have h6e : upd H5 e0 (.lst []) e0 = some (.lst []) := upd_same
      have s6 : Same H5 (upd H5 e0 (.lst [])) := fun b o e => Eg.upd_old e he0
      generalize upd H5 e0 (.lst []) = H6 at h6e s6 ⊢
      have h6b := s6 _ _ h5b
      have h6F := s6 _ _ h5F
      have h6D := s6 _ _ h5D
      have hb6 := hb5.keep s6
      have k6 := k5.trans (.of s6)
      refine Tw.c_eqE h6b h6e ?_
      by_cases le : ls = []
      · rw [show (ls.map fun l => V.str (S l)).isEmpty = true by rw [le]; rfl]
        walk_at "go"
        refine ⟨a, rfl, hb6, fun v H7 hv hb7 k7 => ?_⟩
        have h7F := k7 _ _ h6F hFa
        walk_at "go"
        intro tt htt
        rw [show ("" : Str) = S [] by decide +kernel]
        have h8t : upd H7 tt (.tup [.str "hole", .str (S []), v]) tt = some (.tup (pp (.inr ([], v))).vs) := upd_same
        have s8 : Same H7 (upd H7 tt (.tup [.str "hole", .str (S []), v])) := fun c o e => Eg.upd_old e htt
        generalize upd H7 tt (.tup [.str "hole", .str (S []), v]) = H8 at h8t s8 ⊢
        have h8F := s8 _ _ h7F
        walk_at "go"
        exact fin H8 tt (.inr ([], v)) ((k6.trans k7).trans (.of s8)) (hb7.keep s8) h8t ⟨.inl rfl, Nat.zero_le _, hv⟩ (fun k u hk z => by
          cases List.mem_singleton.mp z
          exact absurd rfl hk) (Nat.le_of_ble_eq_true rfl) _ _
      rw [show (ls.map fun l => V.str (S l)).isEmpty = false by cases ls with | nil => exact absurd rfl le | cons _ _ => rfl]
      have lpos : 0 < ls.length := List.length_pos_iff.mpr le
      walk_at "go"
      refine ⟨a, _, rfl, hb6, by rw [List.length_map]; omega, by rw [List.length_map]; omega, fun r3 H7 r30 r31 hb7 f7 => ?_⟩
      rw [List.length_map] at r31
      obtain ⟨j, rfl⟩ := Int.eq_ofNat_of_zero_le r30
      have hj : j < ls.length := by omega
      have hjz : j < zs.length := by omega
      have k7 := k6.trans (.fr f7)
      have h7b := (f7 b hba).trans h6b
      have h7F := (f7 F hFa).trans h6F
      have h7D := (f7 D hDa).trans h6D
      have v1 : atI (ls.map fun l => V.str (S l)) (j : Int) = some (.str (S ls[j])) := atI_nat (by rw [List.getElem?_map, List.getElem?_eq_getElem hj]; rfl)
      have v2 : atI zs (j : Int) = some zs[j] := atI_nat (List.getElem?_eq_getElem hjz)
      obtain ⟨lo1, lo2⟩ := lok _ (List.getElem_mem hj)
      have dz := zok _ (List.getElem_mem hjz)
      have dl : Drn ls zs [.inr (ls[j], zs[j])] := fun k u hk z => by
        cases List.mem_singleton.mp z
        exact ⟨j, List.getElem?_eq_getElem hj, List.getElem?_eq_getElem hjz⟩
      generalize ls[j] = lab at v1 lo1 lo2 dl
      generalize zs[j] = val at v2 dz dl
      walk_at "go"
      intro tt htt
      have h8t : upd H7 tt (.tup [.str "hole", .str (S lab), val]) tt = some (.tup (pp (.inr (lab, val))).vs) := upd_same
      have s8 : Same H7 (upd H7 tt (.tup [.str "hole", .str (S lab), val])) := fun c o e => Eg.upd_old e htt
      generalize upd H7 tt (.tup [.str "hole", .str (S lab), val]) = H8 at h8t s8 ⊢
      have h8F := s8 _ _ h7F
      walk_at "go"
      exact fin H8 tt (.inr (lab, val)) (k7.trans (.of s8)) (hb7.keep s8) h8t ⟨.inr lo1, lo2, dz⟩ dl (by
        show (lab ++ [125]).length + 1 ≤ 16
        rw [List.length_append]
        show lab.length + 1 + 1 ≤ 16
        omega) _ _
    · rintro _ H4 ⟨ps, v5, v6, v7, rfl, ⟨ys, h4F, py⟩, gps, dps, pl, tl, h4D, h4b, hb4, k4⟩
      walk_at "go"
      have fw : Few ps := ⟨by omega, by omega⟩
      refine ⟨F, ys, ps.map pp, rfl, h4F, py, pp_oks _, gp_tps gps, by rw [List.length_map]; omega, sz_few fw, fun m zs5 H5 hm h5 pz s5 => ?_⟩
      rw [merge_pp] at pz
      have k5 := k4.trans (.of s5)
      have hma := hb4.ne hm
      exact q m (mergeP ps) zs H5 (k4.free hma hm) hma ⟨zs5, h5, pz⟩ (mergeP_gp gps) dps.merge (mergeP_idem ps) (Nat.le_trans (mergeP_len ps) (by omega)) (by rw [mergeP_tmpl]; omega) (hb4.keep s5) k5
end
end LW
end

section
namespace LW
open PySem L2 SX Tx Tl Rp
/-! families of dues and pieces -/
structure Good (ls : List (List Nat)) (zs : List V) (n : Nat) (A : List Pp × Str) : Prop where
  me : mergeP A.1 = A.1
  gp : ∀ p ∈ A.1, Gp p
  dr : Drn ls zs A.1
  sz : (tmpl A.1).length ≤ n
section
variable {ls : List (List Nat)} {zs : List V} {n m N : Nat} {A B : List Pp × Str}
theorem Good.mono (h : Good ls zs n A) (e : n ≤ m) : Good ls zs m A := ⟨h.me, h.gp, h.dr, Nat.le_trans h.sz e⟩
theorem Good.noE (h : Good ls zs n A) : NoE A.1 := by
  have := mergeP_nm A.1
  rw [h.me] at this
  exact nm_noE this
theorem Good.len (h : Good ls zs n A) : A.1.length ≤ n := Nat.le_trans (noE_len h.noE) h.sz
theorem Good.few (h : Good ls zs n A) (e : n ≤ 9000) : Few A.1 := ⟨by have := h.len; omega, by have := h.sz; omega⟩
end
theorem Paired.getR {α β : Type} {F : α → β → Prop} : ∀ {xs : List α} {ys : List β} {i : Nat} {y : β}, Paired F xs ys → ys[i]? = some y → ∃ x, xs[i]? = some x ∧ F x y
  | _, _, 0, _, .cons h _, e => ⟨_, rfl, by cases e; exact h⟩
  | _, _, i + 1, y, .cons _ t, e => Paired.getR (i := i) t e
def Dues (H : Hp) (ts : List V) (L : List (List Pp × Str)) : Prop := Paired (fun v A => ∃ t, v = V.ref t ∧ DueAt H t A) ts L
def Pieces (C : Addr) (H : Hp) (as : List V) (L : List (List Pp × Str)) : Prop := Paired (fun v A => ∃ a, v = V.ref a ∧ PieceAt C H a A.1 A.2) as L
theorem Dues.keep {H H' : Hp} {ts : List V} {L : List (List Pp × Str)} (h : Dues H ts L) (s : Same H H') : Dues H' ts L := Paired.mapP h fun _ _ ⟨t, e, d⟩ => ⟨t, e, d.keep s⟩
theorem Pieces.keep {C : Addr} {H H' : Hp} {ts : List V} {L : List (List Pp × Str)} (h : Pieces C H ts L) (s : Same H H') : Pieces C H' ts L := Paired.mapP h fun _ _ ⟨t, e, d⟩ => ⟨t, e, d.keep s⟩
/-- all but one object stands -/
def KeptX (x : Addr) (H H' : Hp) : Prop := ∀ c o, H c = some o → c ≠ x → H' c = some o
theorem KeptX.trans {b : Addr} {H H' H'' : Hp} (h : KeptX b H H') (h' : KeptX b H' H'') : KeptX b H H'' := fun c o e n => h' c o (h c o e n) n
theorem KeptX.of {b : Addr} {H H' : Hp} (h : Same H H') : KeptX b H H' := fun c o e _ => h c o e
/-- x is no list and no tuple -/
def NoSq (H : Hp) (x : Addr) : Prop := ∀ ys, H x ≠ some (.lst ys) ∧ H x ≠ some (.tup ys)
theorem NoSq.ins {H : Hp} {x C dx : Addr} {fs : List (Str × V)} (h : H x = some (.ins C dx fs)) : NoSq H x := fun ys => by
  rw [h]
  exact ⟨(fun z => nomatch z), (fun z => nomatch z)⟩
theorem CellsAt.keptX {H H' : Hp} {x c : Addr} {ps : List Pp} (n : NoSq H x) (k : KeptX x H H') (h : CellsAt H c ps) : CellsAt H' c ps := by
  obtain ⟨ys, h1, h2⟩ := h
  exact ⟨ys, k _ _ h1 (fun e => (n ys).1 (by rw [← e]; exact h1)), h2.same fun b zs e => k _ _ e (fun z => (n zs).2 (by rw [← z]; exact e))⟩
theorem DueAt.keptX {H H' : Hp} {x t : Addr} {A : List Pp × Str} (n : NoSq H x) (k : KeptX x H H') (h : DueAt H t A) : DueAt H' t A := by
  obtain ⟨c, h1, h2⟩ := h
  exact ⟨c, k _ _ h1 (fun e => (n _).2 (by rw [← e]; exact h1)), h2.keptX n k⟩
theorem Dues.keptX {H H' : Hp} {x : Addr} {ts : List V} {L : List (List Pp × Str)} (n : NoSq H x) (k : KeptX x H H') (h : Dues H ts L) : Dues H' ts L := Paired.mapP h fun _ _ ⟨t, e, d⟩ => ⟨t, e, d.keptX n k⟩
theorem PieceAt.keptX {C : Addr} {H H' : Hp} {x a : Addr} {ps : List Pp} {lv : Str} (n : NoSq H x) (k : KeptX x H H') (hx : a ≠ x) (h : PieceAt C H a ps lv) : PieceAt C H' a ps lv := by
  obtain ⟨dx, ca, h1, h2⟩ := h
  exact ⟨dx, ca, k _ _ h1 hx, h2.keptX n k⟩
/-- new pieces are none of these -/
def Pieces2 (C : Addr) (H : Hp) (x : Addr) (as : List V) (L : List (List Pp × Str)) : Prop := Paired (fun v A => ∃ a, v = V.ref a ∧ PieceAt C H a A.1 A.2 ∧ a ≠ x) as L
theorem Pieces.new {C : Addr} {H : Hp} {x : Addr} {as : List V} {L : List (List Pp × Str)} (h : Pieces C H as L) (hx : H x = none) : Pieces2 C H x as L := Paired.mapP h fun _ _ ⟨a, e, d⟩ => ⟨a, e, d, by
  obtain ⟨dx, ca, h1, _⟩ := d
  exact ne_of_none h1 hx⟩
theorem Pieces2.keptX {C : Addr} {H H' : Hp} {x : Addr} {as : List V} {L : List (List Pp × Str)} (n : NoSq H x) (k : KeptX x H H') (h : Pieces2 C H x as L) : Pieces2 C H' x as L := Paired.mapP h fun _ _ ⟨a, e, d, na⟩ => ⟨a, e, d.keptX n k na, na⟩
theorem Pieces2.keep {C : Addr} {H H' : Hp} {x : Addr} {as : List V} {L : List (List Pp × Str)} (s : Same H H') (h : Pieces2 C H x as L) : Pieces2 C H' x as L := Paired.mapP h fun _ _ ⟨a, e, d, na⟩ => ⟨a, e, d.keep s, na⟩
theorem Pieces2.all {C : Addr} {H : Hp} {x : Addr} {as : List V} {L : List (List Pp × Str)} (h : Pieces2 C H x as L) : Pieces C H as L := Paired.mapP h fun _ _ ⟨a, e, d, _⟩ => ⟨a, e, d⟩
/-- lists of references are no bag -/
theorem refs_ne {H : Hp} {a U : Addr} {ts : List V} (hb : BagB H a) (hU : H U = some (.lst ts)) (h : ∀ v ∈ ts, ∃ t, v = V.ref t) : U ≠ a := by
  rintro rfl
  obtain ⟨d, m, e, _⟩ := hb
  rw [e] at hU
  cases hU
  obtain ⟨t, z⟩ := h _ List.mem_cons_self
  cases z
theorem pcs_refs {H : Hp} : ∀ {ys : List V} {ps : List Pc}, PcsAt H ys ps → ∀ v ∈ ys, ∃ t, v = V.ref t
  | _, _, .nil, _, z => nomatch z
  | _, _, .cons ⟨t, e, _⟩ r, v, z => by
    rcases List.mem_cons.mp z with rfl | z
    · exact ⟨t, e⟩
    · exact pcs_refs r v z
theorem dues_refs {H : Hp} : ∀ {ts : List V} {L : List (List Pp × Str)}, Dues H ts L → ∀ v ∈ ts, ∃ t, v = V.ref t
  | _, _, .nil, _, z => nomatch z
  | _, _, .cons ⟨t, e, _⟩ r, v, z => by
    rcases List.mem_cons.mp z with rfl | z
    · exact ⟨t, e⟩
    · exact dues_refs r v z
theorem pieces_refs {C : Addr} {H : Hp} : ∀ {ts : List V} {L : List (List Pp × Str)}, Pieces C H ts L → ∀ v ∈ ts, ∃ t, v = V.ref t
  | _, _, .nil, _, z => nomatch z
  | _, _, .cons ⟨t, e, _⟩ r, v, z => by
    rcases List.mem_cons.mp z with rfl | z
    · exact ⟨t, e⟩
    · exact pieces_refs r v z
theorem CellsAt.kb {a c : Addr} {H H' : Hp} {ps : List Pp} (hb : BagB H a) (k : KeptB a H H') (h : CellsAt H c ps) : CellsAt H' c ps := by
  obtain ⟨ys, h1, h2⟩ := h
  exact ⟨ys, k _ _ h1 (refs_ne hb h1 (pcs_refs h2)), pcs_keptB hb k h2⟩
theorem tup_ne {H : Hp} {a t : Addr} {xs : List V} (hb : BagB H a) (h : H t = some (.tup xs)) : t ≠ a := by
  rintro rfl
  obtain ⟨d, m, e, _⟩ := hb
  rw [e] at h
  cases h
theorem ins_ne {H : Hp} {a t C dx : Addr} {fs : List (Str × V)} (hb : BagB H a) (h : H t = some (.ins C dx fs)) : t ≠ a := by
  rintro rfl
  obtain ⟨d, m, e, _⟩ := hb
  rw [e] at h
  cases h
theorem DueAt.kb {a t : Addr} {H H' : Hp} {A : List Pp × Str} (hb : BagB H a) (k : KeptB a H H') (h : DueAt H t A) : DueAt H' t A := by
  obtain ⟨c, h1, h2⟩ := h
  exact ⟨c, k _ _ h1 (tup_ne hb h1), h2.kb hb k⟩
theorem PieceAt.kb {C a x : Addr} {H H' : Hp} {ps : List Pp} {lv : Str} (hb : BagB H a) (k : KeptB a H H') (h : PieceAt C H x ps lv) : PieceAt C H' x ps lv := by
  obtain ⟨dx, ca, h1, h2⟩ := h
  exact ⟨dx, ca, k _ _ h1 (ins_ne hb h1), h2.kb hb k⟩
theorem Dues.kb {a : Addr} {H H' : Hp} {ts : List V} {L : List (List Pp × Str)} (hb : BagB H a) (k : KeptB a H H') (h : Dues H ts L) : Dues H' ts L := Paired.mapP h fun _ _ ⟨t, e, d⟩ => ⟨t, e, d.kb hb k⟩
theorem Pieces.kb {C a : Addr} {H H' : Hp} {ts : List V} {L : List (List Pp × Str)} (hb : BagB H a) (k : KeptB a H H') (h : Pieces C H ts L) : Pieces C H' ts L := Paired.mapP h fun _ _ ⟨t, e, d⟩ => ⟨t, e, d.kb hb k⟩
/-- two lists that grow side by side -/
structure Fam (C : Addr) (H : Hp) (U W : Addr) (ls : List (List Nat)) (zs : List V) (n : Nat) (L : List (List Pp × Str)) : Prop where
  du : ∃ ts, H U = some (.lst ts) ∧ Dues H ts L
  pi : ∃ as, H W = some (.lst as) ∧ Pieces C H as L
  go : ∀ A ∈ L, Good ls zs n A
theorem Fam.keep {C : Addr} {H H' : Hp} {U W : Addr} {ls : List (List Nat)} {zs : List V} {n : Nat} {L : List (List Pp × Str)} (h : Fam C H U W ls zs n L) (s : Same H H') : Fam C H' U W ls zs n L := by
  obtain ⟨⟨ts, h1, h2⟩, ⟨as, h3, h4⟩, g⟩ := h
  exact ⟨⟨ts, s _ _ h1, h2.keep s⟩, ⟨as, s _ _ h3, h4.keep s⟩, g⟩
theorem Fam.kb {C a : Addr} {H H' : Hp} {U W : Addr} {ls : List (List Nat)} {zs : List V} {n : Nat} {L : List (List Pp × Str)} (hb : BagB H a) (k : KeptB a H H') (h : Fam C H U W ls zs n L) : Fam C H' U W ls zs n L := by
  obtain ⟨⟨ts, h1, h2⟩, ⟨as, h3, h4⟩, g⟩ := h
  exact ⟨⟨ts, k _ _ h1 (refs_ne hb h1 (dues_refs h2)), h2.kb hb k⟩, ⟨as, k _ _ h3 (refs_ne hb h3 (pieces_refs h4)), h4.kb hb k⟩, g⟩
theorem Fam.ne {C : Addr} {H : Hp} {U W : Addr} {ls : List (List Nat)} {zs : List V} {n : Nat} {L : List (List Pp × Str)} {A : List Pp × Str} (h : Fam C H U W ls zs n L) (hA : L[0]? = some A) : U ≠ W := by
  obtain ⟨⟨ts, h1, h2⟩, ⟨as, h3, h4⟩, g⟩ := h
  rintro rfl
  rw [h1] at h3
  cases h3
  obtain ⟨v, e1, t, rfl, c, d1, _⟩ := Paired.getR h2 hA
  obtain ⟨v, e2, t', rfl, dx, c', d2, _⟩ := Paired.getR h4 hA
  rw [e1] at e2
  cases e2
  rw [d1] at d2
  cases d2
/-! the lists grow -/
theorem cells_ne {H : Hp} {c U : Addr} {v0 : V} {r : List V} {ps : List Pp} (h : CellsAt H c ps) (hU : H U = some (.lst (v0 :: r))) (hn : ∀ (t : Addr) (p : Pc), v0 = .ref t → H t ≠ some (.tup p.vs)) : c ≠ U := by
  rintro rfl
  obtain ⟨ys, h1, h2⟩ := h
  rw [hU] at h1
  cases h1
  generalize ps.map pp = qs at h2
  cases h2 with
  | cons a _ =>
    obtain ⟨t, e, ht⟩ := a
    exact hn t _ e ht
theorem due_head {H : Hp} {t : Addr} {A : List Pp × Str} (h : DueAt H t A) (p : Pc) : H t ≠ some (.tup p.vs) := by
  obtain ⟨c, h1, _⟩ := h
  rw [h1]
  intro e
  cases p <;> cases e
theorem piece_head {C : Addr} {H : Hp} {a : Addr} {ps : List Pp} {lv : Str} (h : PieceAt C H a ps lv) (p : Pc) : H a ≠ some (.tup p.vs) := by
  obtain ⟨dx, ca, h1, _⟩ := h
  rw [h1]
  exact fun e => nomatch e
/-- U is a list that begins with something that is no part -/
def Mut (H : Hp) (U : Addr) : Prop := ∃ (v0 : V) (r : List V), H U = some (.lst (v0 :: r)) ∧ ∀ (t : Addr) (p : Pc), v0 = .ref t → H t ≠ some (.tup p.vs)
theorem Dues.mut {H : Hp} {U : Addr} {ts : List V} {L : List (List Pp × Str)} (h : Dues H ts L) (hU : H U = some (.lst ts)) (hL : L ≠ []) : Mut H U := by
  cases h with
  | nil => exact absurd rfl hL
  | cons a _ =>
    obtain ⟨t, rfl, d⟩ := a
    exact ⟨_, _, hU, fun t' p e => by cases e; exact due_head d p⟩
theorem Pieces.mut {C : Addr} {H : Hp} {U : Addr} {ts : List V} {L : List (List Pp × Str)} (h : Pieces C H ts L) (hU : H U = some (.lst ts)) (hL : L ≠ []) : Mut H U := by
  cases h with
  | nil => exact absurd rfl hL
  | cons a _ =>
    obtain ⟨t, rfl, d⟩ := a
    exact ⟨_, _, hU, fun t' p e => by cases e; exact piece_head d p⟩
theorem CellsAt.upd_ {H : Hp} {c U : Addr} {o : HO} {ps : List Pp} (m : Mut H U) (h : CellsAt H c ps) : CellsAt (upd H U o) c ps := by
  obtain ⟨v0, r, hU, hn⟩ := m
  have hc := cells_ne h hU hn
  obtain ⟨ys, h1, h2⟩ := h
  exact ⟨ys, Eg.upd_mut hc h1, h2.same fun b zs e => Eg.upd_mut (ne_of e hU (fun z => nomatch z)) e⟩
theorem DueAt.upd_ {H : Hp} {t U : Addr} {o : HO} {A : List Pp × Str} (m : Mut H U) (h : DueAt H t A) : DueAt (upd H U o) t A := by
  obtain ⟨c, h1, h2⟩ := h
  obtain ⟨v0, r, hU, _⟩ := id m
  exact ⟨c, Eg.upd_mut (ne_of h1 hU (fun z => nomatch z)) h1, h2.upd_ m⟩
theorem PieceAt.upd_ {C : Addr} {H : Hp} {a U : Addr} {o : HO} {ps : List Pp} {lv : Str} (m : Mut H U) (h : PieceAt C H a ps lv) : PieceAt C (upd H U o) a ps lv := by
  obtain ⟨dx, ca, h1, h2⟩ := h
  obtain ⟨v0, r, hU, _⟩ := id m
  exact ⟨dx, ca, Eg.upd_mut (ne_of h1 hU (fun z => nomatch z)) h1, h2.upd_ m⟩
theorem Dues.upd_ {H : Hp} {U : Addr} {o : HO} {ts : List V} {L : List (List Pp × Str)} (m : Mut H U) (h : Dues H ts L) : Dues (upd H U o) ts L := Paired.mapP h fun _ _ ⟨t, e, d⟩ => ⟨t, e, d.upd_ m⟩
theorem Pieces.upd_ {C : Addr} {H : Hp} {U : Addr} {o : HO} {ts : List V} {L : List (List Pp × Str)} (m : Mut H U) (h : Pieces C H ts L) : Pieces C (upd H U o) ts L := Paired.mapP h fun _ _ ⟨t, e, d⟩ => ⟨t, e, d.upd_ m⟩
theorem Dues.push {H : Hp} {U r : Addr} {o : HO} {ts : List V} {L : List (List Pp × Str)} {A : List Pp × Str} (m : Mut H U) (h : Dues H ts L) (d : DueAt H r A) : Dues (upd H U o) (ts ++ [.ref r]) (L ++ [A]) := Paired.snoc (h.upd_ m) ⟨r, rfl, d.upd_ m⟩
theorem Paired.getL {α β : Type} {F : α → β → Prop} : ∀ {xs : List α} {ys : List β} {i : Nat} {x : α}, Paired F xs ys → xs[i]? = some x → ∃ y, ys[i]? = some y ∧ F x y
  | _, _, 0, _, .cons h _, e => ⟨_, rfl, by cases e; exact h⟩
  | _, _, i + 1, y, .cons _ t, e => Paired.getL (i := i) t e
theorem Pieces.push {C : Addr} {H : Hp} {U r : Addr} {o : HO} {ts : List V} {L : List (List Pp × Str)} {A : List Pp × Str} (m : Mut H U) (h : Pieces C H ts L) (d : PieceAt C H r A.1 A.2) : Pieces C (upd H U o) (ts ++ [.ref r]) (L ++ [A]) := Paired.snoc (h.upd_ m) ⟨r, rfl, d.upd_ m⟩
theorem Mut.keep {H H' : Hp} {U : Addr} (m : Mut H U) (s : Same H H') (hr : ∀ v0 r, H U = some (.lst (v0 :: r)) → ∃ t o, v0 = V.ref t ∧ H t = some o) : Mut H' U := by
  obtain ⟨v0, r, hU, hn⟩ := m
  obtain ⟨t, o, rfl, ho⟩ := hr _ _ hU
  exact ⟨_, _, s _ _ hU, fun t' p e => by
    cases e
    rw [s _ _ ho]
    rw [← ho]
    exact hn _ p rfl⟩
end LW
end

section
namespace LW
open PySem L2 SX Tx Tl Rp
/-! the algebra of joining -/
def exP : List Pp → List (Sum Nat (List Nat × V))
  | [] => []
  | .inl l :: r => l.map .inl ++ exP r
  | .inr x :: r => .inr x :: exP r
def put1P (acc : List Pp) : Sum Nat (List Nat × V) → List Pp
  | .inl c => putP acc (.inl [c])
  | .inr x => putP acc (.inr x)
def wdE (l : List Nat) : List (Sum Nat (List Nat × V)) := l.map .inl
section
variable {wd : List Nat} {lv : Str} {A B C : List Pp × Str}
end
def notB (l : Str) : Bool := decide (l = "or") || decide (l = "and")
def notL : List Nat := [110, 111, 116, 32]
def notC (A : List Pp × Str) : List Pp := .inl notL :: parP (notB A.2) A.1
def notP (A : List Pp × Str) : List Pp × Str := if A.1 = [] then ([], "term") else (mergeP (notC A), "not")
/-! equal parts -/
theorem eqv_dv {v w : V} (hv : DV v) (hw : DV w) : PyData.eqv (dV v) (dV w) = decide (v = w) := by
  cases hv with
  | int i _ =>
    cases hw with
    | int j _ =>
      show PyData.eqv (.int i) (.int j) = _
      simp only [PyData.eqv]
      by_cases e : i = j
      · subst e
        simp
      · rw [decide_eq_false (fun z => e (V.int.inj z))]
        exact beq_false_of_ne e
    | str l _ _ => exact (decide_eq_false (fun z => nomatch z)).symm
  | str l _ _ =>
    cases hw with
    | int j _ => exact (decide_eq_false (fun z => nomatch z)).symm
    | str m _ _ =>
      show PyData.eqv (.str (S l)) (.str (S m)) = _
      simp only [PyData.eqv]
      by_cases e : l = m
      · subst e
        simp
      · rw [decide_eq_false (fun z => e (S_inj (V.str.inj z)))]
        exact beq_false_of_ne fun z => e (S_inj z)
theorem beqS (l m : List Nat) : (S l == S m) = decide (l = m) := by
  by_cases e : l = m
  · subst e
    simp
  · rw [decide_eq_false e]
    exact beq_false_of_ne fun z => e (S_inj z)
theorem eqv_part {p q : Pp} (hp : Gp p) (hq : Gp q) : PyData.eqv (dPc (pp p)) (dPc (pp q)) = decide (p = q) := by
  cases p with
  | inl l =>
    cases q with
    | inl m =>
      show PyData.eqv (.tuple [.str "say", .str (S l)]) (.tuple [.str "say", .str (S m)]) = _
      simp only [PyData.eqv, PyData.eqvAll, beq_self_eq_true, Bool.true_and, Bool.and_true, beqS]
      by_cases e : l = m
      · subst e
        simp
      · rw [decide_eq_false e, decide_eq_false (fun z => e (Sum.inl.inj z))]
    | inr y =>
      obtain ⟨k, w⟩ := y
      show PyData.eqv (.tuple [.str "say", .str (S l)]) (.tuple [.str "hole", .str (S k), dV w]) = _
      rw [decide_eq_false (fun z => nomatch z)]
      simp only [PyData.eqv, PyData.eqvAll]
      rw [show (("say" : Str) == "hole") = false by decide +kernel, Bool.false_and]
  | inr x =>
    obtain ⟨k, v⟩ := x
    cases q with
    | inl m =>
      show PyData.eqv (.tuple [.str "hole", .str (S k), dV v]) (.tuple [.str "say", .str (S m)]) = _
      rw [decide_eq_false (fun z => nomatch z)]
      simp only [PyData.eqv, PyData.eqvAll]
      rw [show (("hole" : Str) == "say") = false by decide +kernel, Bool.false_and]
    | inr y =>
      obtain ⟨k', w⟩ := y
      show PyData.eqv (.tuple [.str "hole", .str (S k), dV v]) (.tuple [.str "hole", .str (S k'), dV w]) = _
      simp only [PyData.eqv, PyData.eqvAll, beq_self_eq_true, Bool.true_and, Bool.and_true, beqS, eqv_dv hp.2.2 hq.2.2]
      by_cases e : k = k'
      · subst e
        by_cases e2 : v = w
        · subst e2
          simp
        · rw [decide_eq_false e2, Bool.and_false, decide_eq_false (fun z => e2 (congrArg Prod.snd (Sum.inr.inj z)))]
      · rw [decide_eq_false e, Bool.false_and, decide_eq_false (fun z => e (congrArg Prod.fst (Sum.inr.inj z)))]
theorem eqv_all : ∀ {A B : List Pp}, (∀ p ∈ A, Gp p) → (∀ p ∈ B, Gp p) → PyData.eqvAll ((A.map pp).map dPc) ((B.map pp).map dPc) = decide (A = B)
  | [], [], _, _ => rfl
  | [], q :: s, _, _ => by
    rw [decide_eq_false (fun z => nomatch z)]
    rfl
  | p :: r, [], _, _ => by
    rw [decide_eq_false (fun z => nomatch z)]
    rfl
  | p :: r, q :: s, ha, hb => by
    show PyData.eqvAll (dPc (pp p) :: (r.map pp).map dPc) (dPc (pp q) :: (s.map pp).map dPc) = _
    rw [PyData.eqvAll, eqv_part (ha p List.mem_cons_self) (hb q List.mem_cons_self), eqv_all (fun x hx => ha x (List.mem_cons_of_mem _ hx)) (fun x hx => hb x (List.mem_cons_of_mem _ hx))]
    by_cases e : p = q
    · subst e
      by_cases e2 : r = s
      · subst e2
        simp
      · rw [decide_eq_false e2, Bool.and_false, decide_eq_false (fun z => e2 (List.cons.inj z).2)]
    · rw [decide_eq_false e, Bool.false_and, decide_eq_false (fun z => e (List.cons.inj z).1)]
theorem eqv_lists {A B : List Pp} (ha : ∀ p ∈ A, Gp p) (hb : ∀ p ∈ B, Gp p) : PyData.eqv (.list ((A.map pp).map dPc)) (.list ((B.map pp).map dPc)) = decide (A = B) := by
  rw [PyData.eqv]
  exact eqv_all ha hb
theorem shape_list {A : List Pp} (h : ∀ p ∈ A, Gp p) : PySem.SeqAt.shaped (.list ((A.map pp).map dPc)) = true := by
  have := shape_fill (gp_tps h)
  unfold PySem.SeqAt.shaped dPs at *
  rw [PyData.canLay0, PyData.depth] at *
  exact this
end LW
end

section
local macro_rules | `(tactic| walk_at "tx") => `(tactic| first
  | with_reducible refine Pz.w_star ?_
  | ((with_reducible refine' Pz.c_starL ?hs ?_); (case hs => walk_at "hp"))
  | with_reducible refine Pz.w_mkR ?_
  | ((with_reducible refine' Pz.w_mkVar ?hs ?_); (case hs => exact rfl))
  | with_reducible refine Mk.w_prop ?_
  | with_reducible refine Mk.w_methK ?_
  | ((with_reducible refine' Po.c_ownS ?hs ?_); (case hs => walk_at "hp"))
  | ((with_reducible refine' Po.c_ownSR ?hs ?_); (case hs => walk_at "hp"))
  | ((with_reducible refine' Po.c_ownBool ?hs ?_); (case hs => walk_at "hp"))
  | ((with_reducible refine' Po.c_ownSet ?hs ?_); (case hs => walk_at "hp"))
  | with_reducible refine Gn.w_gThen ?_
  | with_reducible refine Gn.w_gFor ?_
  | with_reducible refine Gn.w_gIf ?_
  | with_reducible refine Gn.w_g0 ?_
  | (with_reducible show L2.GEnds.nx _ _ _ _; with_reducible refine Gn.w_gnx ?_)
  | with_reducible refine Ow.w_par3 ?_
  | with_reducible refine Ow.c_par3 ?_
  | with_reducible refine Po.w_tru ?_
  | ((with_reducible refine' Po.w_gUnl ?hs ?hn ?_); (case hs => walk_at "sq"); (case hn => exact rfl))
  | ((with_reducible refine' Po.c_truL ?hs ?_); (case hs => walk_at "hp"))
  | ((with_reducible refine' Po.c_boolL ?hs ?_); (case hs => walk_at "sq"))
  | ((with_reducible refine' Ow.c_ownLen ?hs ?_); (case hs => walk_at "hp"))
  | ((with_reducible refine' Ow.c_own2 ?hs ?hz ?_); (case hs => walk_at "hp"); (case hz => walk_at "hp")))
namespace LW
open PySem L2 SX Tx Tl Rp
/-! and, or, not, equal -/
def sp_Piece_bin (C : Addr) (wd : List Nat) (lv : Str) : Sp := fun vs H Q _ => ∃ (a b : Addr) (A B : List Pp × Str), vs = [.ref a, .ref b] ∧ PieceAt C H a A.1 A.2 ∧ PieceAt C H b B.1 B.2 ∧ Ops wd lv A B ∧
  ∀ (x : Addr) (H' : Hp), H x = none → PieceAt C H' x (joinP wd lv A B).1 (joinP wd lv A B).2 → Same H H' → Q (.ref x) H'
def andL : List Nat := [32, 97, 110, 100, 32]
def orL : List Nat := [32, 111, 114, 32]
def sp_Piece_invert (C : Addr) : Sp := fun vs H Q _ => ∃ (a : Addr) (A : List Pp × Str), vs = [.ref a] ∧ PieceAt C H a A.1 A.2 ∧ Few A.1 ∧ Few (notC A) ∧
  ∀ (x : Addr) (H' : Hp), H x = none → PieceAt C H' x (notP A).1 (notP A).2 → Same H H' → Q (.ref x) H'
/-- what a piece is held against -/
inductive Oth (C : Addr) (H : Hp) (A : List Pp × Str) : V → Bool → Prop
  | piece {b : Addr} {B : List Pp × Str} : PieceAt C H b B.1 B.2 → (∀ p ∈ B.1, Gp p) → Oth C H A (.ref b) (decide (A.1 = B.1) && decide (A.2 = B.2))
  | str (z : Str) : Oth C H A (.str z) false
  | int (i : Int) : Oth C H A (.int i) false
  | lst {b : Addr} {xs : List V} : H b = some (.lst xs) → Oth C H A (.ref b) false
def sp_Piece_eq (C : Addr) : Sp := fun vs H Q _ => ∃ (a : Addr) (y : V) (A : List Pp × Str) (r : Bool), vs = [.ref a, y] ∧ PieceAt C H a A.1 A.2 ∧ (∀ p ∈ A.1, Gp p) ∧ Oth C H A y r ∧ Q (.bl r) H
section
variable {P : Program} {w : World} {K : PySem.W.Frag} {mg : Str → Option Value} {base : Heap} {Z : Ad}
theorem ok_Piece_eq (T : Txt K mg Z) : FnOk P w K mg base CX0 1 Z.a_Piece_eq Z.d_Piece_eq ["self", "other"] (sp_Piece_eq Z.c_Piece) := by
  refine T.F_Piece_eq.ok sc_Piece_eq (fun vs H Q E h => ?_) (fun cdv A outer s H vs Q E hr h => ?_)
  · obtain ⟨a, y, A, r, rfl, _⟩ := h
    rfl
  · obtain ⟨a, y, ⟨pa, la⟩, r, rfl, ha, ga, ho, q⟩ := h
    have cP := T.cl_Piece
    have n1 := T.n_Piece_cells
    have n2 := T.n_Piece_level
    obtain ⟨dxa, caa, hoa, ⟨ya, hca, pya⟩⟩ := id ha
    have a1 := lk_pc caa la (S (tmpl pa))
    have a2 := lk_pl caa la (S (tmpl pa))
    refine ⟨_, (pss_one (ps_ret (pe_and (pe_callB call_isi (by rfl) T.u_isinstance (by decide +kernel) (pa_cons (pv 1) (pa_cons (pe_glob (v := .ref Z.c_Piece) (by rfl) T.g_Piece rfl) pa_nil))) (pe_and (pe_cmpR (op_eqD hr.units) (pe_fld (pv 0) rfl) (pe_fld (pv 1) rfl) (nomark _)) (pe_one (pe_cmpR op_eq (pe_fld (pv 0) rfl) (pe_fld (pv 1) rfl) (nomark _))))))), ?_⟩
    refine Eg.w_sig (σ := [some (.ref a), some y]) rfl ?_
    walk_at "go"
    cases ho with
    | str z =>
      refine Eg.c_isi (.own _) (.base (.str z)) T.ki_Piece_str ?_
      walk_at "go"
      exact q
    | int i =>
      refine Eg.c_isi (.own _) (.base (.int i)) T.ki_Piece_int ?_
      walk_at "go"
      exact q
    | lst hl =>
      refine Eg.c_isi (.own _) (.base (.lst hl)) T.ki_Piece_list ?_
      walk_at "go"
      exact q
    | @piece b B hb gb =>
      obtain ⟨pb, lb⟩ := B
      obtain ⟨dxb, cab, hob, ⟨yb, hcb, pyb⟩⟩ := id hb
      have b1 := lk_pc cab lb (S (tmpl pb))
      have b2 := lk_pl cab lb (S (tmpl pb))
      refine Eg.c_isi (.own _) (.base (T.i_Piece hob)) (b := true) (by unfold PySem.W.kitOne; rw [if_pos (beq_self_eq_true _)]) ?_
      walk_at "go"
      refine ⟨_, _, .lst (SqL.of hca) (dp_pcs pya (gp_tps ga)), .lst (SqL.of hcb) (dp_pcs pyb (gp_tps gb)), shape_list ga, shape_list gb, ?_⟩
      rw [eqv_lists ga gb]
      have q : Q (.bl (decide (pa = pb) && decide (la = lb))) H := q
      by_cases e : pa = pb
      · rw [decide_eq_true e] at q ⊢
        rw [Bool.true_and] at q
        walk_at "go"
        rw [show decide (V.str la = V.str lb) = decide (la = lb) from decide_eq_decide.mpr ⟨V.str.inj, fun z => by rw [z]⟩]
        exact q
      · rw [decide_eq_false e] at q ⊢
        rw [Bool.false_and] at q
        walk_at "go"
        exact q
end
end LW
end

section
local macro_rules | `(tactic| walk_at "tx") => `(tactic| first
  | with_reducible refine Ex.w_methKS ?_
  | with_reducible refine Ex.w_callS ?_
  | with_reducible refine Ex.w_rs ?_
  | with_reducible refine Ex.w_xg ?_)
namespace LW
open PySem L2 SX Tx Tl Rp
/-! texts that are wrong: the first wrong character -/
/-- no text -/
inductive NoS (H : Hp) : V → Prop
  | non : NoS H .non
  | int (i : Int) : NoS H (.int i)
  | bl (b : Bool) : NoS H (.bl b)
  | lst {a : Addr} {xs : List V} : H a = some (.lst xs) → NoS H (.ref a)
  | tup {a : Addr} {xs : List V} : H a = some (.tup xs) → NoS H (.ref a)
  | dK {a : Addr} {ks : List (Key × V)} : H a = some (.dK ks) → NoS H (.ref a)
theorem NoS.keep {H H' : Hp} {x : V} (h : NoS H x) (s : Same H H') : NoS H' x := by
  cases h with
  | non => exact .non
  | int i => exact .int i
  | bl b => exact .bl b
  | lst e => exact .lst (s _ _ e)
  | tup e => exact .tup (s _ _ e)
  | dK e => exact .dK (s _ _ e)
theorem isi_noS {K : PySem.W.Frag} {H : Hp} {x : V} {Q : VK} (h : NoS H x) (q : Q (.bl false) H) : rIsi K [x, .ty "str"] H Q := by
  cases h with
  | non => exact Eg.c_isi (.ty _) (.base .non) (kit_ty (b := "str") (r := false) (by decide +kernel)) q
  | int i => exact Eg.c_isi (.ty _) (.base (.int i)) (kit_ty (b := "str") (r := false) (by decide +kernel)) q
  | bl b => exact Eg.c_isi (.ty _) (.base (.bl b)) (kit_ty (b := "str") (r := false) (by decide +kernel)) q
  | lst e => exact Eg.c_isi (.ty _) (.base (.lst e)) (kit_ty (b := "str") (r := false) (by decide +kernel)) q
  | tup e => exact Eg.c_isi (.ty _) (.base (.tup e)) (kit_ty (b := "str") (r := false) (by decide +kernel)) q
  | dK e => exact Eg.c_isi (.ty _) (.base (.dK e)) (kit_ty (b := "str") (r := false) (by decide +kernel)) q
/-- what stands ahead of the first closing brace -/
def upTo (r : List Nat) : Option (List Nat) := if 125 ∈ r then some (r.takeWhile fun c => c != 125) else none
theorem upTo_eq {r k t : List Nat} (hr : r = k ++ 125 :: t) (hk : 125 ∉ k) : upTo r = some k := by
  unfold upTo
  rw [if_pos (by rw [hr]; exact List.mem_append.mpr (.inr List.mem_cons_self)), hr, List.takeWhile_append_of_pos (fun c hc => by
    have : c ≠ 125 := fun z => hk (z ▸ hc)
    simpa using this)]
  simp
theorem split125 {r : List Nat} (h : 125 ∈ r) : ∃ k t, r = k ++ 125 :: t ∧ 125 ∉ k := by
  induction r with
  | nil => cases h
  | cons c r ih =>
    by_cases e : c = 125
    · exact ⟨[], r, by rw [e]; rfl, fun z => nomatch z⟩
    · rcases List.mem_cons.mp h with z | z
      · exact absurd z.symm e
      · obtain ⟨k, t, e1, e2⟩ := ih z
        exact ⟨c :: k, t, by rw [e1]; rfl, fun z => (List.mem_cons.mp z).elim (fun z => e z.symm) e2⟩
theorem upTo_none {r : List Nat} (h : 125 ∉ r) : upTo r = none := if_neg h
/-- a rest that may not stand there -/
def Bad (kind : Str) : List Nat → Prop
  | [] => False
  | c :: r => if c = 123 ∧ kind ≠ "literal" then ∀ k, upTo r = some k → keyB kind k = false else litB c = false
theorem bad_br {kind : Str} {r : List Nat} (hk : kind ≠ "literal") : Bad kind (123 :: r) ↔ ∀ k, upTo r = some k → keyB kind k = false := by
  show (if _ then _ else _) ↔ _
  rw [if_pos ⟨rfl, hk⟩]
theorem bad_lit {kind : Str} {c : Nat} {r : List Nat} (h : ¬ (c = 123 ∧ kind ≠ "literal")) (b : Bad kind (c :: r)) : litB c = false := by
  have b : (if _ then _ else _) := b
  rw [if_neg h] at b
  exact b
theorem keyB_br (kind : Str) : keyB kind [123] = false := by
  unfold keyB
  split
  · decide
  · split
    · rw [show countB [123] = false by decide, Bool.and_false]
    · rw [show labelB [123] = false by decide, show decide (([123] : List Nat) = []) = false by decide, Bool.and_false, Bool.or_false]
/-- each text is read up to a wrong rest, or whole -/
theorem scan_ex (kind : Str) : ∀ (n : Nat) (l : List Nat), l.length ≤ n → ∃ (ts : List Tk) (tl : List Nat), l = flat ts ++ tl ∧ (∀ t ∈ ts, RdOk kind t) ∧ (tl = [] ∨ Bad kind tl)
  | _, [], _ => ⟨[], [], rfl, (fun _ z => nomatch z), .inl rfl⟩
  | 0, _ :: _, h => absurd h (Nat.not_succ_le_zero _)
  | n + 1, c :: r, h => by
    have hr : r.length ≤ n := Nat.le_of_succ_le_succ h
    by_cases hb : Bad kind (c :: r)
    · exact ⟨[], c :: r, rfl, (fun _ z => nomatch z), .inr hb⟩
    by_cases e : c = 123 ∧ kind ≠ "literal"
    · obtain ⟨rfl, hk⟩ := e
      have hb : ¬ ∀ k, upTo r = some k → keyB kind k = false := fun z => hb ((bad_br hk).mpr z)
      obtain ⟨k, hb⟩ := Classical.not_forall.mp hb
      obtain ⟨hu, kb⟩ := Classical.not_imp.mp hb
      have h125 : 125 ∈ r := Classical.byContradiction fun z => by
        rw [upTo_none z] at hu
        cases hu
      obtain ⟨k', t, e1, e2⟩ := split125 h125
      rw [upTo_eq e1 e2] at hu
      cases hu
      obtain ⟨ts, tl, f1, f2, f3⟩ := scan_ex kind n t (by
        have := congrArg List.length e1
        rw [List.length_append, List.length_cons] at this
        omega)
      refine ⟨.ho k :: ts, tl, ?_, fun x hx => ?_, f3⟩
      · show 123 :: r = 123 :: (k ++ 125 :: flat ts) ++ tl
        rw [e1, f1]
        simp
      · rcases List.mem_cons.mp hx with rfl | hx
        · exact ⟨hk, e2, by simpa using kb⟩
        · exact f2 x hx
    · have lb : litB c = true := by
        have hb : ¬ (if _ then _ else _) := hb
        rw [if_neg e] at hb
        simpa using hb
      obtain ⟨ts, tl, f1, f2, f3⟩ := scan_ex kind n r hr
      refine ⟨.ch c :: ts, tl, by rw [f1]; rfl, fun x hx => ?_, f3⟩
      rcases List.mem_cons.mp hx with rfl | hx
      · exact lb
      · exact f2 x hx
open PySem.Builtin PySem.Builtin.Str in
theorem find_no (p r : List Nat) {i : Int} (hi : i = (p.length : Int)) (hq : 125 ∉ r) : Txt.find3 (S (p ++ r)) (S [125]) i = -1 := by
  have hf : fromIndex (S (p ++ r)).length i = p.length := by
    rw [S_len, List.length_append]
    subst hi
    show (max 0 (if ((p.length : Nat) : Int) < 0 then ((p.length : Nat) : Int) + _ else ((p.length : Nat) : Int))).toNat = p.length
    rw [if_neg (by omega)]
    omega
  rcases StrLaws.find3_spec (S (p ++ r)) 125 i with ⟨h, _⟩ | ⟨k, hk, h1, h2, h3, _⟩
  · exact h
  · rw [hf] at h1
    rw [S_len, List.length_append] at h2
    rw [getD_S, List.getD_eq_getElem?_getD, List.getElem?_append_right h1, List.getElem?_eq_getElem (by omega)] at h3
    exact absurd (by rw [← show r[k - p.length]'(by omega) = 125 from h3]; exact List.getElem_mem _) hq
def RT (CB : Addr) (i : Int) (H : Hp) (E : XK) : Prop := ∀ (d : Addr) (H' : Hp), H d = none → H' d = some (.xd [("at", .int i)]) → Same H H' → E (.ref CB) (some d) H'
def sp_read_partsX (CB : Addr) : Sp := fun vs H Q E => ∃ (x : V) (kind : Str), vs = [x, .str kind] ∧ ((NoS H x ∧ RT CB (-1) H E) ∨ ∃ (ts : List Tk) (tl : List Nat), x = .str (S (flat ts ++ tl)) ∧ (flat ts ++ tl).length < 40000 ∧ (∀ t ∈ ts, RdOk kind t) ∧
  ((tl = [] ∧ ∀ (p : Addr) (ys : List V) (H' : Hp), H p = none → H' p = some (.lst ys) → PcsAt H' ys (merge (raw [] ts)) → Same H H' → Q (.ref p) H') ∨ (Bad kind tl ∧ RT CB (((flat ts).length : Nat) : Int) H E)))
section
variable {P : Program} {w : World} {K : PySem.W.Frag} {mg : Str → Option Value} {base : Heap} {Z : Ad}
theorem ok_BadText_init (T : Txt K mg Z) : FnOk P w K mg base CX0 1 Z.a_BadText_init Z.d_BadText_init ["self", "at"] (Ex.spX1 Z.c_BadText "at") := by
  refine T.F_BadText_init.ok sc_BadText_init (fun vs H Q E h => ?_) (fun cdv A outer s H vs Q E hr h => ?_)
  · obtain ⟨a, y, rfl, _⟩ := h
    rfl
  · obtain ⟨a, y, rfl, ha, q⟩ := h
    refine ⟨_, pss_one (ps_ost (pv 0) (pv 1) rfl), ?_⟩
    refine Eg.w_sig (σ := [some (.ref a), some y]) rfl ?_
    exact ⟨_, rfl, _, rfl, a, _, rfl, T.x_BadText.oex, T.no_BadText_at, .inl ⟨ha, fun dx h1 h2 => q dx h1 h2⟩⟩
theorem ok_BadValue_init (T : Txt K mg Z) : FnOk P w K mg base CX0 1 Z.a_BadValue_init Z.d_BadValue_init ["self", "value"] (Ex.spX1 Z.c_BadValue "value") := by
  refine T.F_BadValue_init.ok sc_BadValue_init (fun vs H Q E h => ?_) (fun cdv A outer s H vs Q E hr h => ?_)
  · obtain ⟨a, y, rfl, _⟩ := h
    rfl
  · obtain ⟨a, y, rfl, ha, q⟩ := h
    refine ⟨_, pss_one (ps_ost (pv 0) (pv 1) rfl), ?_⟩
    refine Eg.w_sig (σ := [some (.ref a), some y]) rfl ?_
    exact ⟨_, rfl, _, rfl, a, _, rfl, T.x_BadValue.oex, T.no_BadValue_value, .inl ⟨ha, fun dx h1 h2 => q dx h1 h2⟩⟩
theorem ok_Mismatch_init (T : Txt K mg Z) : FnOk P w K mg base CX0 1 Z.a_Mismatch_init Z.d_Mismatch_init ["self", "wanted", "got"] (Ex.spX2 Z.c_Mismatch "wanted" "got") := by
  refine T.F_Mismatch_init.ok sc_Mismatch_init (fun vs H Q E h => ?_) (fun cdv A outer s H vs Q E hr h => ?_)
  · obtain ⟨a, y, z, rfl, _⟩ := h
    rfl
  · obtain ⟨a, y, z, rfl, ha, q⟩ := h
    refine ⟨_, pss_cons (ps_ost (pv 0) (pv 1) rfl) (pss_one (ps_ost (pv 0) (pv 2) rfl)), ?_⟩
    refine Eg.w_sig (σ := [some (.ref a), some y, some z]) rfl ?_
    exact ⟨_, rfl, _, rfl, a, _, rfl, T.x_Mismatch.oex, T.no_Mismatch_wanted, .inl ⟨ha, fun dx h1 h2 => ⟨_, rfl, _, rfl, a, _, rfl, T.x_Mismatch.oex, T.no_Mismatch_got, .inr ⟨dx, _, upd_same, (upd_ne h2).trans upd_same, by show 1 ≤ 900; decide, q dx h1 h2⟩⟩⟩⟩
theorem ok_NoLabel_init (T : Txt K mg Z) : FnOk P w K mg base CX0 1 Z.a_NoLabel_init Z.d_NoLabel_init ["self", "label"] (Ex.spX1 Z.c_NoLabel "label") := by
  refine T.F_NoLabel_init.ok sc_NoLabel_init (fun vs H Q E h => ?_) (fun cdv A outer s H vs Q E hr h => ?_)
  · obtain ⟨a, y, rfl, _⟩ := h
    rfl
  · obtain ⟨a, y, rfl, ha, q⟩ := h
    refine ⟨_, pss_one (ps_ost (pv 0) (pv 1) rfl), ?_⟩
    refine Eg.w_sig (σ := [some (.ref a), some y]) rfl ?_
    exact ⟨_, rfl, _, rfl, a, _, rfl, T.x_NoLabel.oex, T.no_NoLabel_label, .inl ⟨ha, fun dx h1 h2 => q dx h1 h2⟩⟩
theorem ok_Unused_init (T : Txt K mg Z) : FnOk P w K mg base CX0 1 Z.a_Unused_init Z.d_Unused_init ["self", "label"] (Ex.spX1 Z.c_Unused "label") := by
  refine T.F_Unused_init.ok sc_Unused_init (fun vs H Q E h => ?_) (fun cdv A outer s H vs Q E hr h => ?_)
  · obtain ⟨a, y, rfl, _⟩ := h
    rfl
  · obtain ⟨a, y, rfl, ha, q⟩ := h
    refine ⟨_, pss_one (ps_ost (pv 0) (pv 1) rfl), ?_⟩
    refine Eg.w_sig (σ := [some (.ref a), some y]) rfl ?_
    exact ⟨_, rfl, _, rfl, a, _, rfl, T.x_Unused.oex, T.no_Unused_label, .inl ⟨ha, fun dx h1 h2 => q dx h1 h2⟩⟩
set_option maxHeartbeats 8000000 in
theorem ok_read_partsX (T : Txt K mg Z) : FnOk P w K mg base (L2.CX P w) 4 Z.a_read_parts Z.d_read_parts ["text", "kind"] (sp_read_partsX Z.c_BadText) := by
  refine T.F_read_parts.okX sc_read_parts (fun vs H Q E h => ?_) (fun cdv A outer s H vs Q E hr h => ?_)
  · obtain ⟨x, kind, rfl, _⟩ := h
    rfl
  · obtain ⟨x, kind, rfl, h⟩ := h
    have nd := sc_read_parts.nd
    refine ⟨_, (pss_cons (ps_if (pt_not (pt_val (pe_callB call_isi (by rfl) T.u_isinstance (by decide +kernel) (pa_cons (pv 0) (pa_cons (pe_bltn (v := .ty "str") (u := .type "str") (by rfl) T.u_str (by decide +kernel) rfl) pa_nil)))))
  (pss_one (Ex.ps_rs rfl (takes_of rfl rfl rfl rfl) T.x_BadText.oex T.x_BadText.ini T.x_BadText.fn (ok_BadText_init T) (hr.mono (by decide)) T.b_BadText_init pass0 (by rfl) T.g_BadText (pa_cons (pe_un un_neg pe_int) pa_nil)))
  pss_nil)
  (pss_cons (ps_set (i := 2) nd rfl (Or.inl rfl) (pe_lst pa_nil))
  (pss_cons (ps_set (i := 3) nd rfl (Or.inl rfl) pe_int)
  (pss_cons (ps_set (i := 4) nd rfl (Or.inl rfl) pe_int)
  (pss_cons (ps_while (passes_of rfl) (pt_cmpR op_lt (pv 3) (pe_callB Tw.cr_lenS (by rfl) T.u_len (by decide +kernel) (pa_cons (pv 0) pa_nil)) (nomark _))
  (pss_one (ps_if (PW.pt (pw_and (pt_cmpR op_eq (pe_ix ix_str (pv 0) (pv 3) (fun _ _ => rfl)) pe_str (nomark _)) (pw_and1 (pt_cmpR op_ne (pv 1) pe_str (nomark _)))))
  (pss_cons (ps_set (i := 5) nd rfl (Or.inl rfl) (pe_bm PySem.F.plainAttrs_str PySem.F.slot_str_find PySem.F.type_str_find Tw.mt_f3 (pv 0) (pa_cons pe_str (pa_cons (pv 3) pa_nil))))
  (C8.pss_cut (ps_set (i := 6) nd rfl (Or.inl rfl) (pe_ifExp (pt_cmpR op_gt (pv 5) (pv 3) (nomark _)) (pe_slice sl_str (pv 0) (po_some (pe_op op_add (pv 3) pe_int)) (po_some (pv 5))) pe_str))
  (pss_cons (ps_if (pt_not (pt_val (pe_call (ok_is_key T) (hr.mono (by decide)) (by rfl) T.g_is_key T.F_is_key.kp T.b_is_key .nil pass0 (pa_cons (pv 6) (pa_cons (pv 1) pa_nil)))))
  (pss_one (Ex.ps_rs rfl (takes_of rfl rfl rfl rfl) T.x_BadText.oex T.x_BadText.ini T.x_BadText.fn (ok_BadText_init T) (hr.mono (by decide)) T.b_BadText_init pass0 (by rfl) T.g_BadText (pa_cons (pv 3) pa_nil)))
  pss_nil)
  (pss_cons (ps_expr (pe_bm PySem.F.plainAttrs_list PySem.F.slot_list_append PySem.F.type_list_append mt_append (pv 2) (pa_cons (pe_tup (pa_cons pe_str (pa_cons (pe_slice sl_str (pv 0) (po_some (pv 4)) (po_some (pv 3))) pa_nil))) pa_nil)))
  (pss_cons (ps_expr (pe_bm PySem.F.plainAttrs_list PySem.F.slot_list_append PySem.F.type_list_append mt_append (pv 2) (pa_cons (pe_tup (pa_cons pe_str (pa_cons (pv 6) pa_nil))) pa_nil)))
  (pss_cons (ps_set (i := 3) nd rfl (Or.inl rfl) (pe_op op_add (pv 5) pe_int))
  (pss_one (ps_set (i := 4) nd rfl (Or.inl rfl) (pv 3)))))))))
  (pss_one (ps_if (pt_val (pe_call (ok_is_literal T) (hr.mono (by decide)) (by rfl) T.g_is_literal T.F_is_literal.kp T.b_is_literal .nil pass0 (pa_cons (pe_ix ix_str (pv 0) (pv 3) (fun _ _ => rfl)) pa_nil)))
  (pss_one (ps_set (i := 3) nd rfl (Or.inl rfl) (pe_op op_add (pv 3) pe_int)))
  (pss_one (Ex.ps_rs rfl (takes_of rfl rfl rfl rfl) T.x_BadText.oex T.x_BadText.ini T.x_BadText.fn (ok_BadText_init T) (hr.mono (by decide)) T.b_BadText_init pass0 (by rfl) T.g_BadText (pa_cons (pv 3) pa_nil))))))))
  (pss_cons (ps_expr (pe_bm PySem.F.plainAttrs_list PySem.F.slot_list_append PySem.F.type_list_append mt_append (pv 2) (pa_cons (pe_tup (pa_cons pe_str (pa_cons (pe_slice sl_str (pv 0) (po_some (pv 4)) po_none) pa_nil))) pa_nil)))
  (pss_one (ps_ret (pe_call (ok_merged T) (hr.mono (by decide)) (by rfl) T.g_merged T.F_merged.kp T.b_merged .nil pass0 (pa_cons (pv 2) pa_nil)))))))))), ?_⟩
    refine Eg.w_sig (σ := [some x, some (.str kind), none, none, none, none, none]) rfl ?_
    rcases h with ⟨no, q⟩ | ⟨ts, tl, rfl, hl, hok, q⟩
    · walk_at "go"
      refine isi_noS no ?_
      walk_at "go"
      exact Ex.c_mk1 fun d hd => q d _ hd upd_same fun c o e => Eg.upd_old e hd
    have hfl0 : (flat ts).length + tl.length = (flat ts ++ tl).length := (List.length_append).symm
    generalize hL : flat ts ++ tl = L at hl q hfl0
    have hl1 : L.length < 100000 := by omega
    walk_at "go"
    intro f hf
    walk_at "go"
    have fresh : ∀ c o, H c = some o → c ≠ f := fun c o e => ne_of_none e hf
    refine ⟨fun m σ' H' => ∃ (v5 v6 : Option V) (pre cur : List Nat) (rest : List Tk) (ys : List V) (ps : List Pc), m = rest.length ∧ σ' = [some (.str (S L)), some (.str kind), some (.ref f), some (.int ((pre.length + cur.length : Nat) : Int)), some (.int (pre.length : Nat)), v5, v6] ∧ L = pre ++ (cur ++ (flat rest ++ tl)) ∧ (∀ t ∈ rest, RdOk kind t) ∧ H' f = some (.lst ys) ∧ PcsAt H' ys ps ∧ raw [] ts = ps ++ raw cur rest ∧ Same H H',
      ⟨_, none, none, [], [], ts, [], [], rfl, rfl, hL.symm, hok, upd_same, .nil, rfl, fun c o e => Eg.upd_old e hf⟩, ?_⟩
    rintro m _ H1 ⟨v5, v6, pre, cur, rest, ys, ps, rfl, rfl, hfl, hro, h1f, py, hraw, s1⟩
    have len := congrArg List.length hfl
    rw [List.length_append, List.length_append, List.length_append] at len
    have rl := raw_len ts []
    have fl := flat_len ts
    have yl := py.len
    have pl := congrArg List.length hraw
    rw [List.length_append] at pl
    cases rest with
    | nil =>
      have e0 : (flat []).length = 0 := rfl
      rcases q with ⟨rfl, q⟩ | ⟨bad, q⟩
      rotate_left
      · cases tl with
        | nil => exact False.elim bad
        | cons c r =>
          have hat : L[pre.length + cur.length]? = some c := by
            rw [hfl, ← List.append_assoc, List.getElem?_append_right (by rw [List.length_append]; exact Nat.le_refl _), List.length_append, Nat.sub_self]
            rfl
          have ef : (flat [] : List Nat) = [] := rfl
          have lf : pre.length + cur.length = (flat ts).length := by
            rw [e0] at len
            omega
          have lenc : L.length = pre.length + (cur.length + (r.length + 1)) := by
            rw [e0, List.length_cons] at len
            omega
          walk_at "go"
          refine Eg.brDT (by omega) ?_
          refine ⟨fun σ' H' => ∃ m', m' < ([] : List Tk).length ∧ _, fun σ' H' h => h, ?_⟩
          walk_at "go"
          refine Tw.c_ixS hl1 rfl hat ?_
          walk_at "go"
          have fin : ∀ (H2 : Hp) (d : Addr), Same H H2 → H2 d = none → E (.ref Z.c_BadText) (some d) (upd H2 d (.xd [("at", .int (((flat ts).length : Nat) : Int))])) := fun H2 d s2 hd => q d _ (s2.free hd) upd_same fun c o e => Eg.upd_old (s2 _ _ e) hd
          by_cases e1 : c = 123 ∧ kind ≠ "literal"
          · obtain ⟨rfl, hk1⟩ := e1
            have kn : decide (V.str kind = V.str "literal") = false := decide_eq_false fun z => hk1 (V.str.inj z)
            have br : decide (V.str (S [123]) = V.str "{") = true := by
              rw [show ("{" : Str) = S [123] by decide +kernel, decide_eq_true rfl]
            have bad := (bad_br hk1).mp bad
            rw [br]
            walk_at "go"
            rw [kn]
            walk_at "go"
            refine ⟨_, _, _, rfl, rfl, ?_⟩
            rw [show ("}" : Str) = S [125] by decide +kernel]
            have hLr : L = (pre ++ cur) ++ (123 :: r) := by
              rw [hfl, ef]
              simp
            by_cases h125 : 125 ∈ r
            · obtain ⟨k, t, hr, hk⟩ := split125 h125
              have kb := bad k (upTo_eq hr hk)
              have lk := congrArg List.length hr
              rw [List.length_append, List.length_cons] at lk
              have fd : Txt.find3 (S L) (S [125]) ((pre.length + cur.length : Nat) : Int) = ((pre.length + cur.length + (k.length + 1) : Nat) : Int) := by
                have := find_mid (pre ++ cur) (123 :: k) t 125 (i := ((pre.length + cur.length : Nat) : Int)) (by rw [List.length_append]) (fun z => by
                  rcases List.mem_cons.mp z with z | z
                  · exact absurd z (by decide)
                  · exact hk z)
                rw [List.length_append, List.length_cons] at this
                rw [← this, hLr, hr]
                rfl
              have s1k : Txt.slice (S L) (some (((pre.length + cur.length : Nat) : Int) + 1)) (some ((pre.length + cur.length + (k.length + 1) : Nat) : Int)) = S k := by
                have := slice_mid (pre ++ cur ++ [123]) k (125 :: t) (i := ((pre.length + cur.length : Nat) : Int) + 1) (j := ((pre.length + cur.length + (k.length + 1) : Nat) : Int)) (by rw [List.length_append, List.length_append]; rfl) (by rw [List.length_append, List.length_append]; simp; omega)
                rw [← this, hLr, hr]
                simp
              rw [fd]
              walk_at "go"
              refine ⟨fun σ' H' => σ' = [some (.str (S L)), some (.str kind), some (.ref f), some (.int ((pre.length + cur.length : Nat) : Int)), some (.int (pre.length : Nat)), some (.int ((pre.length + cur.length + (k.length + 1) : Nat) : Int)), some (.str (S k))] ∧ H1 = H', ?_, ?_⟩
              · walk_at "go"
                refine Eg.brDT (by omega) ?_
                walk_at "go"
                refine Tw.c_slS hl1 s1k ?_
                walk_at "go"
                exact ⟨rfl, rfl⟩
              rintro _ _ ⟨rfl, rfl⟩
              walk_at "go"
              refine ⟨k, kind, rfl, by omega, fun H2 s2 => ?_⟩
              rw [kb]
              walk_at "go"
              rw [lf]
              exact Ex.c_mk1 fun d hd => fin H2 d (s1.trans s2) hd
            · have fd : Txt.find3 (S L) (S [125]) ((pre.length + cur.length : Nat) : Int) = -1 := by
                rw [hLr]
                exact find_no (pre ++ cur) (123 :: r) (by rw [List.length_append]) fun z => by
                  rcases List.mem_cons.mp z with z | z
                  · exact absurd z (by decide)
                  · exact h125 z
              rw [fd]
              walk_at "go"
              refine ⟨fun σ' H' => σ' = [some (.str (S L)), some (.str kind), some (.ref f), some (.int ((pre.length + cur.length : Nat) : Int)), some (.int (pre.length : Nat)), some (.int (-1)), some (.str (S [123]))] ∧ H1 = H', ?_, ?_⟩
              · walk_at "go"
                refine Eg.brDF (by omega) ?_
                walk_at "go"
                exact ⟨by rw [show ("{" : Str) = S [123] by decide +kernel]; rfl, rfl⟩
              rintro _ _ ⟨rfl, rfl⟩
              walk_at "go"
              refine ⟨[123], kind, rfl, by decide, fun H2 s2 => ?_⟩
              rw [keyB_br kind]
              walk_at "go"
              rw [lf]
              exact Ex.c_mk1 fun d hd => fin H2 d (s1.trans s2) hd
          · have lb := bad_lit e1 bad
            by_cases e2 : V.str (S [c]) = V.str "{"
            · have c123 : c = 123 := by
                have z := V.str.inj e2
                rw [show ("{" : Str) = S [123] by decide +kernel] at z
                exact (List.cons.inj (S_inj z)).1
              have kl : kind = "literal" := Classical.byContradiction fun z => e1 ⟨c123, z⟩
              subst kl
              rw [decide_eq_true e2]
              walk_at "go"
              rw [decide_eq_true rfl]
              walk_at "go"
              refine Tw.c_ixS hl1 rfl hat ?_
              walk_at "go"
              refine ⟨c, rfl, ?_⟩
              rw [lb]
              walk_at "go"
              rw [lf]
              exact Ex.c_mk1 fun d hd => fin H1 d s1 hd
            · rw [decide_eq_false e2]
              walk_at "go"
              refine Tw.c_ixS hl1 rfl hat ?_
              walk_at "go"
              refine ⟨c, rfl, ?_⟩
              rw [lb]
              walk_at "go"
              rw [lf]
              exact Ex.c_mk1 fun d hd => fin H1 d s1 hd
      have len2 : L.length = pre.length + cur.length := by
        rw [e0, List.length_nil] at len
        omega
      have sl : Txt.slice (S L) (some ((pre.length : Nat) : Int)) none = S cur := by
        rw [hfl]
        show Txt.slice (S (pre ++ (cur ++ []))) _ _ = _
        rw [List.append_nil]
        exact from_app pre cur rfl
      have rz := raw_sz ts []
      have e1 : ([] : List Nat).length = 0 := rfl
      walk_at "go"
      refine Eg.brDF (by omega) ?_
      walk_at "go"
      refine Tw.c_slS hl1 sl ?_
      walk_at "go"
      intro t1 ht1
      walk_at "go"
      have h2f : upd H1 t1 (.tup [.str "say", .str (S cur)]) f = some (.lst ys) := Eg.upd_old h1f ht1
      have h2t : upd H1 t1 (.tup [.str "say", .str (S cur)]) t1 = some (.tup (Pc.say cur).vs) := upd_same
      have py2 := py.same fun b zs e => (Eg.upd_old e ht1 : upd H1 t1 (.tup [.str "say", .str (S cur)]) b = _)
      have s02 : Same H (upd H1 t1 (.tup [.str "say", .str (S cur)])) := fun c o e => Eg.upd_old (s1 c o e) ht1
      generalize upd H1 t1 (.tup [.str "say", .str (S cur)]) = H2 at h2f h2t py2 s02 ⊢
      have t1f : t1 ≠ f := ne_of h2t h2f (fun z => nomatch z)
      walk_at "go"
      refine ⟨f, _, ps ++ [.say cur], rfl, upd_same, PcsAt.app (py2.same fun b zs e => Eg.upd_mut (ne_of e h2f (fun z => nomatch z)) e) (PcsAt.one (Eg.upd_mut t1f h2t)), ?_, ?_, ?_, fun p zs H3 hp h3p pz s3 => ?_⟩
      · rw [← show raw cur [] = [Pc.say cur] from rfl, ← hraw]
        exact raw_ok ts []
      · rw [← show raw cur [] = [Pc.say cur] from rfl, ← hraw]
        omega
      · rw [← show raw cur [] = [Pc.say cur] from rfl, ← hraw]
        omega
      · walk_at "go"
        rw [← show raw cur [] = [Pc.say cur] from rfl, ← hraw] at pz
        refine q p zs H3 ?_ h3p pz fun c o e => s3 _ _ (Eg.upd_mut (fresh c o e) (s02 c o e))
        cases z : H p with
        | none => rfl
        | some o =>
          rw [Eg.upd_mut (fresh p o z) (s02 p o z)] at hp
          cases hp
    | cons t rest =>
      have rt := hro t List.mem_cons_self
      have rr : ∀ t ∈ rest, RdOk kind t := fun z hz => hro z (List.mem_cons_of_mem _ hz)
      cases t with
      | ch c =>
        have rt : litB c = true := rt
        have hat : L[pre.length + cur.length]? = some c := by
          rw [hfl, ← List.append_assoc, List.getElem?_append_right (by rw [List.length_append]; exact Nat.le_refl _), List.length_append, Nat.sub_self]
          rfl
        have ef : flat (.ch c :: rest) = c :: flat rest := rfl
        rw [ef, List.length_cons] at len
        walk_at "go"
        refine Eg.brDT (by omega) ?_
        refine ⟨fun σ' H' => ∃ m', m' < (Tk.ch c :: rest).length ∧ _, fun σ' H' h => h, ?_⟩
        walk_at "go"
        refine Tw.c_ixS hl1 rfl hat ?_
        walk_at "go"
        rw [lit_ne rt]
        walk_at "go"
        refine Tw.c_ixS hl1 rfl hat ?_
        walk_at "go"
        refine ⟨c, rfl, ?_⟩
        rw [rt]
        walk_at "go"
        refine ⟨rest.length, Nat.lt_succ_self _, v5, v6, pre, cur ++ [c], rest, ys, ps, rfl, ?_, ?_, rr, h1f, py, hraw, s1⟩
        · rw [List.length_append]
          rfl
        · rw [hfl, ef]
          simp
      | ho k =>
        obtain ⟨hk1, hk2, hk3⟩ := rt
        have ef : flat (.ho k :: rest) = 123 :: (k ++ 125 :: flat rest) := rfl
        rw [ef, List.length_cons, List.length_append, List.length_cons] at len
        have hat : L[pre.length + cur.length]? = some 123 := by
          rw [hfl, ← List.append_assoc, List.getElem?_append_right (by rw [List.length_append]; exact Nat.le_refl _), List.length_append, Nat.sub_self]
          rfl
        have kn : decide (V.str kind = V.str "literal") = false := decide_eq_false fun z => hk1 (V.str.inj z)
        have br : decide (V.str (S [123]) = V.str "{") = true := by
          rw [show ("{" : Str) = S [123] by decide +kernel, decide_eq_true rfl]
        have fd : Txt.find3 (S L) (S [125]) ((pre.length + cur.length : Nat) : Int) = ((pre.length + cur.length + (k.length + 1) : Nat) : Int) := by
          have := find_mid (pre ++ cur) (123 :: k) (flat rest ++ tl) 125 (i := ((pre.length + cur.length : Nat) : Int)) (by rw [List.length_append]) (fun z => by
            rcases List.mem_cons.mp z with z | z
            · exact absurd z (by decide)
            · exact hk2 z)
          rw [List.length_append, List.length_cons] at this
          rw [← this, hfl, ef]
          simp
        have s1k : Txt.slice (S L) (some (((pre.length + cur.length : Nat) : Int) + 1)) (some ((pre.length + cur.length + (k.length + 1) : Nat) : Int)) = S k := by
          have := slice_mid (pre ++ cur ++ [123]) k (125 :: (flat rest ++ tl)) (i := ((pre.length + cur.length : Nat) : Int) + 1) (j := ((pre.length + cur.length + (k.length + 1) : Nat) : Int)) (by rw [List.length_append, List.length_append]; rfl) (by rw [List.length_append, List.length_append]; simp; omega)
          rw [← this, hfl, ef]
          simp
        have s2k : Txt.slice (S L) (some ((pre.length : Nat) : Int)) (some ((pre.length + cur.length : Nat) : Int)) = S cur := by
          rw [hfl]
          exact slice_mid pre cur _ rfl rfl
        walk_at "go"
        refine Eg.brDT (by omega) ?_
        refine ⟨fun σ' H' => ∃ m', m' < (Tk.ho k :: rest).length ∧ _, fun σ' H' h => h, ?_⟩
        walk_at "go"
        refine Tw.c_ixS hl1 rfl hat ?_
        walk_at "go"
        rw [br]
        walk_at "go"
        rw [kn]
        walk_at "go"
        refine ⟨_, _, _, rfl, rfl, ?_⟩
        rw [show ("}" : Str) = S [125] by decide +kernel, fd]
        walk_at "go"
        refine ⟨fun σ' H' => σ' = [some (.str (S L)), some (.str kind), some (.ref f), some (.int ((pre.length + cur.length : Nat) : Int)), some (.int (pre.length : Nat)), some (.int ((pre.length + cur.length + (k.length + 1) : Nat) : Int)), some (.str (S k))] ∧ H1 = H', ?_, ?_⟩
        · walk_at "go"
          refine Eg.brDT (by omega) ?_
          walk_at "go"
          refine Tw.c_slS hl1 s1k ?_
          walk_at "go"
          exact ⟨rfl, rfl⟩
        rintro _ _ ⟨rfl, rfl⟩
        walk_at "go"
        refine ⟨k, kind, rfl, by omega, fun H2 s2 => ?_⟩
        rw [hk3]
        have s02 := s1.trans s2
        have h2f := s2 _ _ h1f
        have py2 := py.same fun b zs e => s2 _ _ e
        clear s1 s2 h1f py H1
        walk_at "go"
        refine Tw.c_slS hl1 s2k ?_
        walk_at "go"
        intro t1 ht1
        walk_at "go"
        have h3f : upd H2 t1 (.tup [.str "say", .str (S cur)]) f = some (.lst ys) := Eg.upd_old h2f ht1
        have h3t : upd H2 t1 (.tup [.str "say", .str (S cur)]) t1 = some (.tup (Pc.say cur).vs) := upd_same
        have py3 := py2.same fun b zs e => (Eg.upd_old e ht1 : upd H2 t1 (.tup [.str "say", .str (S cur)]) b = _)
        have s03 : Same H (upd H2 t1 (.tup [.str "say", .str (S cur)])) := fun c o e => Eg.upd_old (s02 c o e) ht1
        generalize upd H2 t1 (.tup [.str "say", .str (S cur)]) = H3 at h3f h3t py3 s03 ⊢
        have t1f : t1 ≠ f := ne_of h3t h3f (fun z => nomatch z)
        clear h2f py2 s02 ht1 H2
        walk_at "go"
        intro t2 ht2
        have py4 := PcsAt.app (py3.same fun b zs e => (Eg.upd_mut (ne_of e h3f (fun z => nomatch z)) e : upd H3 f (.lst (ys ++ [.ref t1])) b = _)) (PcsAt.one (p := .say cur) (Eg.upd_mut t1f h3t))
        have s04 : Same H (upd H3 f (.lst (ys ++ [.ref t1]))) := fun c o e => Eg.upd_mut (fresh c o e) (s03 c o e)
        have h4f : upd H3 f (.lst (ys ++ [.ref t1])) f = some (.lst (ys ++ [.ref t1])) := upd_same
        generalize upd H3 f (.lst (ys ++ [.ref t1])) = H4 at ht2 py4 s04 h4f ⊢
        have py5 := py4.same fun b zs e => (Eg.upd_old e ht2 : upd H4 t2 (.tup [.str "hole", .str (S k)]) b = _)
        have s05 : Same H (upd H4 t2 (.tup [.str "hole", .str (S k)])) := fun c o e => Eg.upd_old (s04 c o e) ht2
        have h5f : upd H4 t2 (.tup [.str "hole", .str (S k)]) f = some (.lst (ys ++ [.ref t1])) := Eg.upd_old h4f ht2
        have h5t : upd H4 t2 (.tup [.str "hole", .str (S k)]) t2 = some (.tup (hole k).vs) := upd_same
        generalize upd H4 t2 (.tup [.str "hole", .str (S k)]) = H5 at py5 s05 h5f h5t ⊢
        have t2f : t2 ≠ f := ne_of h5t h5f (fun z => nomatch z)
        clear py4 s04 h4f ht2 py3 h3f h3t s03
        walk_at "go"
        refine ⟨rest.length, Nat.lt_succ_self _, some (.int ((pre.length + cur.length + (k.length + 1) : Nat) : Int)), some (.str (S k)), pre ++ cur ++ (123 :: (k ++ [125])), [], rest, _, ps ++ [.say cur] ++ [hole k], rfl, ?_, ?_, rr, upd_same, PcsAt.app (py5.same fun b zs e => Eg.upd_mut (ne_of e h5f (fun z => nomatch z)) e) (PcsAt.one (Eg.upd_mut t2f h5t)), ?_, fun c o e => Eg.upd_mut (fresh c o e) (s05 c o e)⟩
        · have e1 : ((pre.length + cur.length + (k.length + 1) : Nat) : Int) + 1 = (((pre ++ cur ++ (123 :: (k ++ [125]))).length : Nat) : Int) := by
            simp only [List.length_append, List.length_cons, List.length_nil]
            omega
          rw [e1]
          rfl
        · rw [hfl, ef]
          simp
        · rw [hraw]
          show ps ++ (.say cur :: hole k :: raw [] rest) = _
          simp
end
end LW
end

section
local macro_rules | `(tactic| walk_at "tx") => `(tactic| first
  | with_reducible refine Ex.w_methKS ?_
  | with_reducible refine Ex.w_callS ?_
  | with_reducible refine Ex.w_rs ?_
  | with_reducible refine Ex.w_xg ?_)
namespace LW
open PySem L2 SX Tx Tl Rp
/-! the law's reading of texts -/
theorem map_strM {σ : L2.St} {H : Hp} {l : List Nat} {j : Nat} {ti te : TE} {F : Nat → V} {Q : VK} (hsz : l.length < 100000)
    (hi : ∀ R : VK, R (.str (S l)) H → ti σ H R)
    (elt : ∀ (H' : Hp) (z : Nat) (R : VK), Same H H' → z ∈ l → (∀ H2, Same H' H2 → R (F z) H2) → te ((wipe σ [j]).set j (some (.str (S [z])))) H' R)
    (done : ∀ (D : Addr) (H' : Hp), H D = none → Same H H' → H' D = some (.lst (l.map F)) → Q (.ref D) H') : tLc (iStr ti) (gName j) tYes te [j] σ H Q := by
  refine Eg.w_lc (Tw.w_iStr (hi _ (Tw.c_iStr ?_)))
  intro D hD
  refine lc_it (walk_str (z := S l)) (fun n H' => Same H H' ∧ H' D = some (.lst ((l.take n).map F))) ⟨Eg.same_new (Same.refl _) hD, upd_same⟩ (fun n H' _ h => trivial) ?_ ?_
  · rintro n x _ H1 hn ⟨s1, h2⟩ ⟨rfl, c, hc, rfl⟩
    have hc : l[n]? = some c := by simpa using hc
    obtain ⟨hlt, he⟩ := List.getElem?_eq_some_iff.mp hc
    refine Eg.w_gN (Eg.w_wipe ?_ (Eg.w_yes (iteT (elt H1 c _ s1 (List.mem_of_getElem? hc) fun H2 s2 => ⟨_, s2 _ _ h2, ?_, Eg.same_mut (s1.trans s2) hD, ?_⟩))))
    · show (((σ.set j none).set j (some (V.str (S [c])))).set j none) = σ.set j none
      rw [List.set_set, List.set_set]
    · rw [List.length_map, List.length_take, sizeLine_eq]
      omega
    · rw [upd_same, List.take_succ_eq_append_getElem hlt, he, List.map_append]
      rfl
  · rintro H1 ⟨s1, h2⟩
    rw [show (S l).cps.size = l.length by simp, List.take_length] at h2
    exact done D H1 hD s1 h2
theorem cut_last (l : List Nat) : cutS (S l) none (some (-1)) = S (l.take (l.length - 1)) := by
  have n : (S l).length = l.length := S_len l
  have e1 : HT.sIx (S l).length 0 none = 0 := rfl
  have e2 : HT.sIx (S l).length (S l).length (some (-1)) = l.length - 1 := by
    show (if (-1 : Int) < 0 then ((-1 : Int) + ((S l).length : Int)).toNat else min (-1 : Int).toNat (S l).length) = l.length - 1
    rw [if_pos (by decide), n]
    omega
  unfold cutS
  rw [e1, e2]
  show S ((l.drop 0).take (l.length - 1 - 0)) = _
  rw [List.drop_zero, Nat.sub_zero]
theorem c_slL1 {H : Hp} {l : List Nat} {Q : VK} (h : l.length < 100000) (q : Q (.str (S (l.take (l.length - 1)))) H) : rSlS (.str (S l)) none (some (-1)) H Q :=
  Tw.c_slS h (by rw [← C8.cutS_slice, cut_last]) q
theorem cut_to (l : List Nat) (n : Nat) : cutS (S l) none (some (n : Int)) = S (l.take n) := by
  have e0 : (S l).length = l.length := S_len l
  have e1 : HT.sIx (S l).length 0 none = 0 := rfl
  have e2 : HT.sIx (S l).length (S l).length (some (n : Int)) = min n l.length := by
    show (if (n : Int) < 0 then ((n : Int) + ((S l).length : Int)).toNat else min (n : Int).toNat (S l).length) = _
    rw [if_neg (by omega), e0]
    rfl
  unfold cutS
  rw [e1, e2]
  show S ((l.drop 0).take (min n l.length - 0)) = _
  rw [List.drop_zero, Nat.sub_zero]
  congr 1
  rw [List.take_eq_take_iff]
  omega
theorem c_slTo {H : Hp} {l : List Nat} {n : Nat} {i : Int} {Q : VK} (h : l.length < 100000) (hi : i = (n : Int)) (q : Q (.str (S (l.take n))) H) : rSlS (.str (S l)) none (some i) H Q := by
  subst hi
  exact Tw.c_slS h (by rw [← C8.cutS_slice, cut_to]) q
theorem c_ixL {H : Hp} {l : List Nat} {c : Nat} {Q : VK} (h : l.length < 100000) (hc : l.getLast? = some c) (q : Q (.str (S [c])) H) : rIxS (.str (S l)) (.int (-1)) H Q :=
  ⟨_, _, c, rfl, rfl, (by rw [S_len, sizeLine_eq]; omega), atI_last hc, q⟩
open PySem.Builtin PySem.Builtin.Str in
theorem part_no {r : List Nat} (h : 125 ∉ r) : Txt.partition (S r) (S [125]) = (S r, Str.empty, Str.empty) := by
  have z := find_no [] r (i := 0) rfl h
  unfold Txt.find3 at z
  unfold Txt.partition
  have f0 : fromIndex (S r).length 0 = 0 := by
    show (max 0 (if (0 : Int) < 0 then _ else (0 : Int))).toNat = 0
    rfl
  rw [List.nil_append, f0] at z
  revert z
  cases occurrences (S r) (S [125]) 0 (S r).length 1 with
  | nil => exact fun _ => rfl
  | cons k ks =>
    intro z
    have z : (k : Int) = -1 := z
    omega
open PySem.Builtin PySem.Builtin.Str in
theorem part_at {k t : List Nat} (h : 125 ∉ k) : (Txt.partition (S (k ++ 125 :: t)) (S [125])).1 = S k ∧ (Txt.partition (S (k ++ 125 :: t)) (S [125])).2.1 = S [125] := by
  have z := find_mid [] k t 125 (i := 0) rfl h
  unfold Txt.find3 at z
  unfold Txt.partition
  have f0 : fromIndex (S (k ++ 125 :: t)).length 0 = 0 := by
    show (max 0 (if (0 : Int) < 0 then _ else (0 : Int))).toNat = 0
    rfl
  rw [List.nil_append, f0] at z
  revert z
  cases occurrences (S (k ++ 125 :: t)) (S [125]) 0 (S (k ++ 125 :: t)).length 1 with
  | nil =>
    intro z
    have z : (-1 : Int) = ((0 + k.length : Nat) : Int) := z
    omega
  | cons i is =>
    intro z
    have z : (i : Int) = ((0 + k.length : Nat) : Int) := z
    have z : i = k.length := by omega
    subst z
    refine ⟨?_, rfl⟩
    show strSub (S (k ++ 125 :: t)) 0 k.length = S k
    unfold strSub
    show (⟨(k ++ 125 :: t).toArray.extract 0 k.length⟩ : Str) = ⟨k.toArray⟩
    congr 1
    simp
/-- whether a key may stand, as the law has it -/
def holeB (kind : Str) (k : List Nat) : Bool :=
  if k = [] then decide (kind = "template" ∨ kind = "order")
  else if (k.drop (stem k).length).length > 6 ∨ ((k.drop (stem k).length).take 1 = [48] ∧ k.drop (stem k).length ≠ [48]) then false
  else if kind = "number" then decide (stem k = [] ∧ k.drop (stem k).length ≠ [48])
  else if kind = "order" ∨ ¬ (1 ≤ (stem k).length ∧ (stem k).length ≤ 8) then false
  else (stem k).all low
theorem stem_dig (k : List Nat) : (k.drop (stem k).length).all dig = true := by
  obtain ⟨d, e, hd⟩ := stem_app k
  have : k.drop (stem k).length = d := by
    conv => lhs; rw [e]
    rw [stem_of (fun c hc => ?_) hd]
    · exact List.drop_left
    · unfold stem at hc
      rw [List.getLast?_reverse] at hc
      cases z : k.reverse.dropWhile dig with
      | nil =>
        rw [z] at hc
        cases hc
      | cons x r =>
        rw [z] at hc
        cases hc
        have := List.head_dropWhile_not dig (l := k.reverse) (by rw [z]; exact fun z => nomatch z)
        simpa [z] using this
  rw [this]
  exact hd
theorem stem_cut (k : List Nat) : stem k ++ k.drop (stem k).length = k := by
  obtain ⟨d, e, hd⟩ := stem_app k
  have h2 := congrArg (List.drop (stem k).length) e
  rw [List.drop_left] at h2
  rw [h2]
  exact e.symm
theorem countD {d : List Nat} (hd : d.all dig = true) (ne : d ≠ []) : countB d = (decide (d.length ≤ 6) && !(decide (d.take 1 = [48]) && decide (d ≠ [48]))) := by
  unfold countB
  rw [hd, Bool.and_true]
  cases d with
  | nil => exact absurd rfl ne
  | cons c r =>
    rw [decide_eq_true (show 1 ≤ (c :: r).length from Nat.le_add_left 1 _), Bool.true_and]
    congr 3
    exact decide_eq_decide.mpr (by simp)
theorem holeB_eq (kind : Str) (k : List Nat) : holeB kind k = keyB kind k := by
  unfold holeB keyB
  by_cases hk : k = []
  · subst hk
    rw [if_pos rfl]
    by_cases h1 : kind = "order"
    · rw [decide_eq_true h1, if_pos rfl]
      exact decide_eq_true (.inr h1)
    · rw [decide_eq_false h1, if_neg Bool.false_ne_true]
      by_cases h2 : kind = "number"
      · rw [decide_eq_true h2, if_pos rfl]
        subst h2
        decide +kernel
      · rw [decide_eq_false h2, if_neg Bool.false_ne_true, show labelB [] = false by decide, Bool.false_or]
        rw [show decide (([] : List Nat) = []) = true from rfl, Bool.and_true]
        exact decide_eq_decide.mpr ⟨fun h => h.elim id fun z => absurd z h1, .inl⟩
  rw [if_neg hk]
  have hd := stem_dig k
  have hc := stem_cut k
  generalize hdd : k.drop (stem k).length = d at hd hc ⊢
  generalize hss : stem k = w at hc ⊢
  rw [decide_eq_false hk]
  by_cases ho : kind = "order"
  · rw [decide_eq_true ho, if_pos rfl]
    split
    · rfl
    · split
      · rename_i h
        rw [ho] at h
        exact absurd h (by decide +kernel)
      · rw [if_pos (.inl ho)]
  rw [decide_eq_false ho, if_neg Bool.false_ne_true]
  by_cases hn : kind = "number"
  · rw [decide_eq_true hn, if_pos rfl, if_pos hn]
    by_cases hw : w = []
    · subst hw
      rw [List.nil_append] at hc
      subst hc
      rw [countD hd hk]
      by_cases h1 : d.length > 6
      · rw [if_pos (.inl h1), decide_eq_false (show ¬ d.length ≤ 6 by omega)]
        simp
      · rw [decide_eq_true (show d.length ≤ 6 by omega)]
        by_cases h2 : d.take 1 = [48] ∧ d ≠ [48]
        · rw [if_pos (.inr h2), decide_eq_true h2.1, decide_eq_true h2.2]
          simp
        · rw [if_neg (fun z => z.elim h1 h2)]
          have e2 : (decide (d.take 1 = [48]) && decide (d ≠ [48])) = false := by
            rw [← Bool.decide_and]
            exact decide_eq_false h2
          rw [e2]
          simp
    · have lab : countB k = false := by
        cases e : countB k with
        | false => rfl
        | true =>
          exfalso
          unfold countB at e
          simp only [Bool.and_eq_true] at e
          have all := e.2
          apply hw
          have : stem ([] ++ k) = [] := stem_of (fun _ z => nomatch z) all
          rw [List.nil_append, hss] at this
          exact this
      rw [lab, Bool.and_false, decide_eq_false (fun z => hw z.1)]
      split <;> rfl
  · rw [decide_eq_false hn, if_neg Bool.false_ne_true, if_neg hn, Bool.and_false, Bool.or_false]
    have el : labelB k = (wordB w && (decide (w = k) || countB d)) := by
      unfold labelB
      rw [hdd, hss]
    rw [el]
    have wB : wordB w = (decide (1 ≤ w.length) && decide (w.length ≤ 8) && w.all low) := rfl
    by_cases hw : 1 ≤ w.length ∧ w.length ≤ 8
    · rw [wB, decide_eq_true hw.1, decide_eq_true hw.2, Bool.true_and, Bool.true_and, if_neg (show ¬ (kind = "order" ∨ ¬ (1 ≤ w.length ∧ w.length ≤ 8)) from fun z => z.elim ho fun z => z hw)]
      by_cases hd0 : d = []
      · subst hd0
        rw [List.append_nil] at hc
        rw [decide_eq_true hc, Bool.true_or, Bool.and_true]
        rw [if_neg (fun z => z.elim (fun z => absurd z (by decide)) fun z => absurd z.1 (by decide))]
      · have hwk : ¬ w = k := fun z => by
          rw [← z] at hc
          have := congrArg List.length hc
          rw [List.length_append] at this
          exact hd0 (List.length_eq_zero_iff.mp (by omega))
        rw [decide_eq_false hwk, Bool.false_or, countD hd hd0]
        by_cases h1 : d.length > 6
        · rw [if_pos (.inl h1), decide_eq_false (show ¬ d.length ≤ 6 by omega)]
          simp
        · rw [decide_eq_true (show d.length ≤ 6 by omega)]
          by_cases h2 : d.take 1 = [48] ∧ d ≠ [48]
          · rw [if_pos (.inr h2), decide_eq_true h2.1, decide_eq_true h2.2]
            simp
          · rw [if_neg (fun z => z.elim h1 h2)]
            have e2 : (decide (d.take 1 = [48]) && decide (d ≠ [48])) = false := by
              rw [← Bool.decide_and]
              exact decide_eq_false h2
            rw [e2]
            simp
    · have wf : wordB w = false := by
        rw [wB]
        cases e : (decide (1 ≤ w.length) && decide (w.length ≤ 8)) with
        | false => rfl
        | true =>
          simp only [Bool.and_eq_true, decide_eq_true_eq] at e
          exact absurd e hw
      rw [wf, Bool.false_and, if_pos (show kind = "order" ∨ ¬ (1 ≤ w.length ∧ w.length ≤ 8) from .inr hw)]
      split <;> rfl
def holeV (kind : Str) (r : List Nat) : V := match upTo r with
  | some k => if keyB kind k = true then .str (S k) else .non
  | none => .non
theorem hole_no {kind : Str} {r : List Nat} (h : 125 ∉ r) : holeV kind r = .non := by
  unfold holeV
  rw [upTo_none h]
theorem hole_at {kind : Str} {r k t : List Nat} (hr : r = k ++ 125 :: t) (hk : 125 ∉ k) : holeV kind r = if keyB kind k = true then .str (S k) else .non := by
  unfold holeV
  rw [upTo_eq hr hk]
def lows : List Nat := [97, 98, 99, 100, 101, 102, 103, 104, 105, 106, 107, 108, 109, 110, 111, 112, 113, 114, 115, 116, 117, 118, 119, 120, 121, 122]
theorem in_lows (x : Nat) : decide ((.inr (S [x]) : Key) ∈ lows.map fun c => (.inr (S [c]) : Key)) = low x := by
  unfold low
  rw [← Bool.decide_and]
  refine decide_eq_decide.mpr ⟨fun h => ?_, fun h => List.mem_map.mpr ⟨x, ?_, rfl⟩⟩
  · obtain ⟨c, hc, e⟩ := List.mem_map.mp h
    rw [← (List.cons.inj (S_inj (Sum.inr.inj e))).1]
    have := (by decide : ∀ c ∈ lows, 97 ≤ c ∧ c ≤ 122) c hc
    exact this
  · exact (by decide : ∀ y < 123, 97 ≤ y → y ∈ lows) x (by omega) h.1
theorem w_m1 {r : V → List V → Hp → VK → Prop} {to te : TE} {σ : L2.St} {H : Hp} {Q : VK} (h : to σ H fun x H1 => (∃ a, x = .str a) ∧ te σ H1 fun y H2 => r x [y] H2 Q) : tM1 r to te σ H Q := h
theorem hole_bad {kind : Str} {r : List Nat} (h : ∀ k, upTo r = some k → keyB kind k = false) : holeV kind r = .non := by
  unfold holeV
  cases e : upTo r with
  | none => rfl
  | some k =>
    show (if keyB kind k = true then _ else _) = _
    rw [h k e, if_neg Bool.false_ne_true]
theorem in_brs (c : Nat) : decide ((.inr (S [c]) : Key) ∈ ([.inr "{", .inr "}"] : List Key)) = decide (c = 123 ∨ c = 125) := by
  rw [show ("{" : Str) = S [123] by decide +kernel, show ("}" : Str) = S [125] by decide +kernel]
  refine decide_eq_decide.mpr ⟨fun h => ?_, fun h => ?_⟩
  · rcases List.mem_cons.mp h with h | h
    · exact .inl (List.cons.inj (S_inj (Sum.inr.inj h))).1
    · exact .inr (List.cons.inj (S_inj (Sum.inr.inj (List.mem_singleton.mp h)))).1
  · rcases h with rfl | rfl
    · exact List.mem_cons_self
    · exact .tail _ List.mem_cons_self
def sp_l_hole : Sp := fun vs H Q _ => ∃ (l pre r : List Nat) (at_ : Int) (kind : Str), vs = [.str (S l), .int at_, .str kind] ∧ l = pre ++ 123 :: r ∧ at_ = (pre.length : Nat) ∧ l.length < 40000 ∧ ∀ H', Same H H' → Q (holeV kind r) H'
/-- the keys of holes -/
def hos : List Tk → List (List Nat)
  | [] => []
  | .ch _ :: r => hos r
  | .ho k :: r => k :: hos r
theorem hos_app (a b : List Tk) : hos (a ++ b) = hos a ++ hos b := by
  induction a with
  | nil => rfl
  | cons t r ih =>
    cases t with
    | ch c => exact ih
    | ho k => exact congrArg (k :: ·) ih
theorem hos_len (ts : List Tk) : (hos ts).length ≤ ts.length := by
  induction ts with
  | nil => exact Nat.le_refl _
  | cons t r ih =>
    cases t with
    | ch c => exact Nat.le_succ_of_le ih
    | ho k => exact Nat.succ_le_succ ih
/-- what is told of a text: the place of the first wrong sign, or None -/
def atV (ts : List Tk) (tl : List Nat) : V := if tl = [] then .non else .int (((flat ts).length : Nat) : Int)
def sp_l_read : Sp := fun vs H Q _ => ∃ (x : V) (kind : Str), vs = [x, .str kind] ∧ ((NoS H x ∧ ∀ (p e : Addr) (H' : Hp), H p = none → H e = none → H' p = some (.tup [.int (-1), .ref e]) → H' e = some (.lst []) → Same H H' → Q (.ref p) H') ∨
  ∃ (ts : List Tk) (tl : List Nat), x = .str (S (flat ts ++ tl)) ∧ (flat ts ++ tl).length < 40000 ∧ 37 ∉ tl ∧ (∀ t ∈ ts, RdOk kind t) ∧ (tl = [] ∨ Bad kind tl) ∧
    ∀ (p e : Addr) (H' : Hp), H p = none → H e = none → H' p = some (.tup [atV ts tl, .ref e]) → H' e = some (.lst ((hos ts).map fun k => V.str (S k))) → Same H H' → Q (.ref p) H')
section
variable {P : Program} {w : World} {K : PySem.W.Frag} {mg : Str → Option Value} {base : Heap} {Z : Ad}
set_option maxHeartbeats 8000000 in
theorem ok_l_hole (T : Txt K mg Z) : FnOk P w K mg base CX0 2 Z.a_l_hole Z.d_l_hole ["_law_text_here", "_law_at", "_law_kind"] sp_l_hole := by
  refine T.F_l_hole.ok sc_l_hole (fun vs H Q E h => ?_) (fun cdv A outer s H vs Q E hr h => ?_)
  · obtain ⟨l, pre, r, at_, kind, rfl, _⟩ := h
    rfl
  · obtain ⟨l, pre, r, at_, kind, rfl, hl, rfl, hlen, q⟩ := h
    have nd := sc_l_hole.nd
    have hl1 : l.length < 100000 := by omega
    have ll := congrArg List.length hl
    rw [List.length_append, List.length_cons] at ll
    refine ⟨_, (pss_cons (ps_set (i := 3) nd rfl (Or.inl rfl) (pe_partition (pe_slice sl_str (pv 0) (po_some (pe_op op_add (pv 1) pe_int)) po_none) pe_str))
  (pss_cons (ps_set (i := 4) nd rfl (Or.inl rfl) (pe_ix ix_tup (pv 3) pe_int (fun _ _ => rfl)))
  (pss_cons (ps_if (pt_cmpR op_eq (pe_ix ix_tup (pv 3) pe_int (fun _ _ => rfl)) pe_str (nomark _))
  (pss_one (ps_ret pe_non))
  pss_nil)
  (pss_cons (ps_if (pt_cmpR op_eq (pv 4) pe_str (nomark _))
  (pss_one (ps_ret (pe_ifExp (pt_cmpR op_in_seq (pv 2) (pe_lst (pa_cons pe_str (pa_cons pe_str pa_nil))) (by rfl)) (pv 4) pe_non)))
  pss_nil)
  (pss_cons (ps_par (i := 5) (j := 6) (by rfl) nd rfl rfl (by decide) rfl rfl (pa_cons (pv 4) (pa_cons (pe_callTy (Tw.cr_listS rfl) (by rfl) T.u_list (by decide +kernel) (pa_cons pe_str pa_nil)) pa_nil)) (by rfl))
  (pss_cons (ps_while PassesOwn.never (PW.pt (pw_and (pt_cmpR op_ne (pv 5) pe_str (nomark _)) (pw_and1 (pt_cmpR op_in_seq (pe_ix ix_str (pv 5) (pe_un un_neg pe_int) (fun _ _ => rfl)) (pv 6) (by rfl)))))
  (pss_one (ps_set (i := 5) nd rfl (Or.inl rfl) (pe_slice sl_str (pv 5) po_none (po_some (pe_un un_neg pe_int))))))
  (pss_cons (ps_set (i := 7) nd rfl (Or.inl rfl) (pe_slice sl_str (pv 4) (po_some (pe_callB Tw.cr_lenS (by rfl) T.u_len (by decide +kernel) (pa_cons (pv 5) pa_nil))) po_none))
  (pss_cons (ps_if (PW.pt (pw_or (pt_cmpR op_gt (pe_callB Tw.cr_lenS (by rfl) T.u_len (by decide +kernel) (pa_cons (pv 7) pa_nil)) pe_int (nomark _)) (pw_or1 (PW.pt (pw_and (pt_cmpR op_eq (pe_slice sl_str (pv 7) po_none (po_some pe_int)) pe_str (nomark _)) (pw_and1 (pt_cmpR op_ne (pv 7) pe_str (nomark _))))))))
  (pss_one (ps_ret pe_non))
  pss_nil)
  (pss_cons (ps_if (pt_cmpR op_eq (pv 2) pe_str (nomark _))
  (pss_one (ps_ret (pe_ifExp (PW.pt (pw_and (pt_cmpR op_eq (pv 5) pe_str (nomark _)) (pw_and1 (pt_cmpR op_ne (pv 7) pe_str (nomark _))))) (pv 4) pe_non)))
  pss_nil)
  (pss_cons (ps_if (PW.pt (pw_or (pt_cmpR op_eq (pv 2) pe_str (nomark _)) (pw_or1 (pt_not (pt_chain op_le op_le pe_int (pe_callB Tw.cr_lenS (by rfl) T.u_len (by decide +kernel) (pa_cons (pv 5) pa_nil)) pe_int)))))
  (pss_one (ps_ret pe_non))
  pss_nil)
  (pss_one (ps_ret (pe_ifExp (pt_val (pe_callB (cr_all rfl) (by rfl) T.u_all (by decide +kernel) (pa_cons (pe_lc (own := [("_law_sign", 8)]) rfl nd (pi_str (pv 5)) (blkOk_by (N := N_l_hole) (sc := defScope s_l_hole) (by decide +kernel)) (fun _ _ _ _ _ => (pg_name (i := 8) nd rfl (Or.inl rfl))) (fun _ _ _ _ _ => pts_nil) (fun _ _ _ _ _ => (Eg.peE (pe_cmpR op_in_seq (pv 8) (pe_callTy (Tw.cr_listS rfl) (by rfl) T.u_list (by decide +kernel) (pa_cons pe_str pa_nil)) (by rfl)) (by walk_at "blk")))) pa_nil))) (pv 4) pe_non))))))))))))), ?_⟩
    refine Eg.w_sig (σ := [some (.str (S l)), some (.int (pre.length : Nat)), some (.str kind), none, none, none, none, none, none]) rfl ?_
    have sl : Txt.slice (S l) (some (((pre.length : Nat) : Int) + 1)) none = S r := by
      rw [hl, show pre ++ 123 :: r = (pre ++ [123]) ++ r by simp]
      exact from_app (pre ++ [123]) r (by rw [List.length_append]; rfl)
    refine Eg.w_seq (Eg.w_asg (w_m1 ?_))
    walk_at "go"
    refine Tw.c_slS hl1 sl ⟨⟨_, rfl⟩, ?_⟩
    walk_at "go"
    rw [show ("}" : Str) = S [125] by decide +kernel]
    refine ⟨_, _, rfl, rfl, by decide, by rw [S_len, sizeLine_eq]; omega, fun p hp => ?_⟩
    have h1p : upd H p (.tup [.str (Txt.partition (S r) (S [125])).1, .str (Txt.partition (S r) (S [125])).2.1, .str (Txt.partition (S r) (S [125])).2.2]) p = some (.tup [.str (Txt.partition (S r) (S [125])).1, .str (Txt.partition (S r) (S [125])).2.1, .str (Txt.partition (S r) (S [125])).2.2]) := upd_same
    have s1 : Same H (upd H p (.tup [.str (Txt.partition (S r) (S [125])).1, .str (Txt.partition (S r) (S [125])).2.1, .str (Txt.partition (S r) (S [125])).2.2])) := fun c o e => Eg.upd_old e hp
    generalize upd H p (.tup [.str (Txt.partition (S r) (S [125])).1, .str (Txt.partition (S r) (S [125])).2.1, .str (Txt.partition (S r) (S [125])).2.2]) = H1 at h1p s1 ⊢
    clear hp sl
    by_cases h125 : 125 ∉ r
    · rw [part_no h125] at h1p
      rw [hole_no h125] at q
      have h1p : H1 p = some (.tup [.str (S r), .str Str.empty, .str Str.empty]) := h1p
      walk_at "go"
      rw [decide_eq_true (show V.str Str.empty = V.str "" by decide +kernel)]
      walk_at "go"
      exact q H1 s1
    have h125 := Classical.not_not.mp h125
    obtain ⟨k, t, hr', hk⟩ := split125 h125
    rw [hole_at hr' hk, ← holeB_eq] at q
    generalize hB : holeB kind k = hb at q
    have pt := part_at (k := k) (t := t) hk
    rw [hr'] at h1p
    rw [pt.1, pt.2] at h1p
    have lk := congrArg List.length hr'
    rw [List.length_append, List.length_cons] at lk
    have kl : k.length < 100000 := by omega
    clear pt h125 hr' hk hl
    walk_at "go"
    rw [decide_eq_false (show ¬ V.str (S [125]) = V.str "" by decide +kernel)]
    walk_at "go"
    rw [str_emp]
    unfold holeB at hB
    by_cases hk0 : k = []
    · rw [if_pos hk0] at hB
      subst hB
      rw [decide_eq_true hk0]
      walk_at "go"
      intro u hu
      refine Tw.c_in (k := .inr kind) (ks := [.inr "template", .inr "order"]) upd_same ?_
      have e : decide ((.inr kind : Key) ∈ ([.inr "template", .inr "order"] : List Key)) = decide (kind = "template" ∨ kind = "order") := decide_eq_decide.mpr ⟨fun h => by
        rcases List.mem_cons.mp h with h | h
        · exact .inl (Sum.inr.inj h)
        · exact .inr (Sum.inr.inj (List.mem_singleton.mp h)), fun h => by
        rcases h with rfl | rfl
        · exact List.mem_cons_self
        · exact .tail _ List.mem_cons_self⟩
      rw [e]
      walk_at "go"
      have s2 : Same H (upd H1 u (.lst [.str "template", .str "order"])) := fun c o e => Eg.upd_old (s1 _ _ e) hu
      refine Eg.br (fun e => ?_) (fun e => ?_)
      · rw [e, if_pos rfl] at q
        walk_at "go"
        exact q _ s2
      · rw [e, if_neg Bool.false_ne_true] at q
        walk_at "go"
        exact q _ s2
    rw [if_neg hk0] at hB
    rw [decide_eq_false hk0]
    walk_at "go"
    rw [digits10_S]
    refine ⟨digits10, rfl, by decide, fun g hg => ?_⟩
    have h2g : upd H1 g (.lst (digits10.map fun c => V.str (S [c]))) g = some (.lst (digits10.map fun c => V.str (S [c]))) := upd_same
    have s2 : Same H (upd H1 g (.lst (digits10.map fun c => V.str (S [c])))) := fun c o e => Eg.upd_old (s1 _ _ e) hg
    generalize upd H1 g (.lst (digits10.map fun c => V.str (S [c]))) = H2 at h2g s2 ⊢
    clear h1p s1 hg
    walk_at "go"
    refine ⟨fun m σ' H' => ∃ (w d : List Nat), m = w.length ∧ σ' = [some (.str (S l)), some (.int (pre.length : Nat)), some (.str kind), some (.ref p), some (.str (S k)), some (.str (S w)), some (.ref g), none, none] ∧ k = w ++ d ∧ d.all dig = true ∧ H2 = H', ⟨_, k, [], rfl, rfl, (List.append_nil _).symm, rfl, rfl⟩, ?_⟩
    rintro m _ _ ⟨w, d, rfl, rfl, hkw, hd, rfl⟩
    have wl := congrArg List.length hkw
    rw [List.length_append] at wl
    have done : ∀ (hw : ∀ c, w.getLast? = some c → dig c = false), stem k = w := fun hw => by rw [hkw]; exact stem_of hw hd
    have sgn : ∀ (x : Nat), decide ((.inr (S [x]) : Key) ∈ digits10.map fun c => (.inr (S [c]) : Key)) = dig x := fun x => by
      rw [← mem_digits10]
      refine decide_eq_decide.mpr ⟨fun h => ?_, fun h => List.mem_map.mpr ⟨x, h, rfl⟩⟩
      obtain ⟨c, hc, e⟩ := List.mem_map.mp h
      rw [← (List.cons.inj (S_inj (Sum.inr.inj e))).1]
      exact hc
    have h2gk : H2 g = some (.lst ((digits10.map fun c => (.inr (S [c]) : Key)).map kV)) := by
      rw [h2g, List.map_map]
      rfl
    have dw : k.drop w.length = d := by rw [hkw, List.drop_left]
    have wl1 : w.length < 100000 := by omega
    walk_at "go"
    rw [str_emp]
    by_cases hx : ∃ c, w.getLast? = some c ∧ dig c = true
    · obtain ⟨c, hc, hdc⟩ := hx
      have hw0 : w ≠ [] := fun z => by
        rw [z] at hc
        cases hc
      rw [decide_eq_false hw0]
      walk_at "go"
      refine c_ixL wl1 hc ?_
      walk_at "go"
      refine Tw.c_in (k := .inr (S [c])) h2gk ?_
      rw [sgn, hdc]
      walk_at "go"
      refine ⟨fun σ' H' => ∃ m', m' < w.length ∧ _, fun σ' H' h => h, ?_⟩
      walk_at "go"
      refine c_slL1 wl1 ?_
      walk_at "go"
      have hs := last_split hc
      have hl0 : 0 < w.length := List.length_pos_iff.mpr hw0
      refine ⟨(w.take (w.length - 1)).length, by rw [List.length_take]; omega, w.take (w.length - 1), c :: d, rfl, rfl, ?_, ?_, rfl⟩
      · rw [hkw, ← List.dropLast_eq_take]
        conv => lhs; rw [hs]
        simp
      · rw [List.all_cons, hdc, hd]
        rfl
    have st := done fun c hc => by
      cases e : dig c with
      | false => rfl
      | true => exact absurd ⟨c, hc, e⟩ hx
    by_cases hw0 : w = []
    case' pos =>
      rw [decide_eq_true hw0]
      walk_at "go"
    case' neg =>
      rw [decide_eq_false hw0]
      walk_at "go"
      obtain ⟨c, hc⟩ : ∃ c, w.getLast? = some c := ⟨_, List.getLast?_eq_some_getLast hw0⟩
      refine c_ixL wl1 hc ?_
      walk_at "go"
      refine Tw.c_in (k := .inr (S [c])) h2gk ?_
      rw [sgn, show dig c = false by
        cases e : dig c with
        | false => rfl
        | true => exact absurd ⟨c, hc, e⟩ hx]
      walk_at "go"
    all_goals
      refine Tw.c_slS (m := d) kl (by rw [slice_from (by omega), Int.toNat_natCast, dw]) ?_
      rw [st, dw] at hB
      have dl : d.length < 100000 := by omega
      clear hkw dw st h2gk h2g done
      walk_at "go"
      by_cases h1 : d.length > 6
      · rw [if_pos (.inl h1)] at hB
        subst hB
        rw [if_neg Bool.false_ne_true] at q
        refine Eg.brDT (by omega) ?_
        walk_at "go"
        exact q _ s2
      refine Eg.brDF (by omega) ?_
      walk_at "go"
      refine c_slTo (n := 1) dl rfl ?_
      walk_at "go"
      rw [str_one]
      by_cases h2 : d.take 1 = [48] ∧ d ≠ [48]
      · rw [if_pos (.inr h2)] at hB
        subst hB
        rw [if_neg Bool.false_ne_true] at q
        rw [decide_eq_true h2.1]
        walk_at "go"
        rw [str_one, decide_eq_false h2.2]
        walk_at "go"
        exact q _ s2
      rw [if_neg (fun z => z.elim h1 h2)] at hB
      by_cases h3 : d.take 1 = [48]
      case' pos =>
        have h4 : d = [48] := Classical.byContradiction fun z => h2 ⟨h3, z⟩
        rw [decide_eq_true h3]
        walk_at "go"
        rw [str_one, decide_eq_true h4]
        walk_at "go"
      case' neg =>
        rw [decide_eq_false h3]
        walk_at "go"
      all_goals
        by_cases hn : kind = "number"
        · rw [if_pos hn] at hB
          rw [decide_eq_true (show V.str kind = V.str "number" by rw [hn])]
          walk_at "go"
          rw [str_emp]
          by_cases a1 : w = []
          · rw [decide_eq_true a1]
            walk_at "go"
            rw [str_one]
            by_cases a2 : d = [48]
            · rw [decide_eq_false (fun z => z.2 a2)] at hB
              subst hB
              rw [if_neg Bool.false_ne_true] at q
              rw [decide_eq_true a2]
              walk_at "go"
              exact q _ s2
            · rw [decide_eq_true ⟨a1, a2⟩] at hB
              subst hB
              rw [if_pos rfl] at q
              rw [decide_eq_false a2]
              walk_at "go"
              exact q _ s2
          · rw [decide_eq_false (fun z => a1 z.1)] at hB
            subst hB
            rw [if_neg Bool.false_ne_true] at q
            rw [decide_eq_false a1]
            walk_at "go"
            exact q _ s2
        rw [if_neg hn] at hB
        rw [decide_eq_false (show ¬ V.str kind = V.str "number" from fun z => hn (V.str.inj z))]
        walk_at "go"
        by_cases ho : kind = "order"
        · rw [if_pos (.inl ho)] at hB
          subst hB
          rw [if_neg Bool.false_ne_true] at q
          rw [decide_eq_true (show V.str kind = V.str "order" by rw [ho])]
          walk_at "go"
          exact q _ s2
        rw [decide_eq_false (show ¬ V.str kind = V.str "order" from fun z => ho (V.str.inj z))]
        walk_at "go"
        by_cases b1 : 1 ≤ w.length
        case' neg =>
          rw [if_pos (.inr fun z => b1 z.1)] at hB
          subst hB
          rw [if_neg Bool.false_ne_true] at q
          rw [decide_eq_false (show ¬ (1 : Int) ≤ ((w.length : Nat) : Int) by omega)]
          walk_at "go"
          exact q _ s2
        rw [decide_eq_true (show (1 : Int) ≤ ((w.length : Nat) : Int) by omega)]
        walk_at "go"
        by_cases b2 : w.length ≤ 8
        case' neg =>
          rw [if_pos (.inr fun z => b2 z.2)] at hB
          subst hB
          rw [if_neg Bool.false_ne_true] at q
          rw [decide_eq_false (show ¬ ((w.length : Nat) : Int) ≤ 8 by omega)]
          walk_at "go"
          exact q _ s2
        rw [decide_eq_true (show ((w.length : Nat) : Int) ≤ 8 by omega)]
        rw [if_neg (fun z => z.elim ho fun z => z ⟨b1, b2⟩)] at hB
        walk_at "gw"
        refine map_strM (F := fun c => .bl (low c)) wl1 (fun R h => Eg.w_var rfl h) (fun H' z R s1 hz h => ?_) (fun D H1 hD s3 h3' => ?_)
        · walk_at "go"
          rw [show ("abcdefghijklmnopqrstuvwxyz" : Str) = S lows by decide +kernel]
          refine ⟨lows, rfl, by decide, fun g' hg' => ?_⟩
          walk_at "go"
          refine Tw.c_in (k := .inr (S [z])) (ks := lows.map fun c => .inr (S [c])) (by rw [upd_same, List.map_map]; rfl) ?_
          rw [in_lows]
          exact h _ fun c o e => Eg.upd_old e hg'
        · walk_at "go"
          refine Tw.all_map h3' ?_
          walk_at "go"
          refine Eg.br (fun e => ?_) (fun e => ?_)
          · rw [e] at hB
            subst hB
            rw [if_pos rfl] at q
            walk_at "go"
            exact q _ (s2.trans s3)
          · rw [e] at hB
            subst hB
            rw [if_neg Bool.false_ne_true] at q
            walk_at "go"
            exact q _ (s2.trans s3)
set_option maxHeartbeats 8000000 in
theorem ok_l_read (T : Txt K mg Z) : FnOk P w K mg base CX0 3 Z.a_l_read Z.d_l_read ["_law_text_here", "_law_kind"] sp_l_read := by
  refine T.F_l_read.ok sc_l_read (fun vs H Q E h => ?_) (fun cdv A outer s H vs Q E hr h => ?_)
  · obtain ⟨x, kind, rfl, _⟩ := h
    rfl
  · obtain ⟨x, kind, rfl, h⟩ := h
    have nd := sc_l_read.nd
    refine ⟨_, (pss_cons (ps_if (pt_not (pt_val (pe_callB call_isi (by rfl) T.u_isinstance (by decide +kernel) (pa_cons (pv 0) (pa_cons (pe_bltn (v := .ty "str") (u := .type "str") (by rfl) T.u_str (by decide +kernel) rfl) pa_nil)))))
  (pss_one (ps_ret (pe_tup (pa_cons (pe_un un_neg pe_int) (pa_cons (pe_lst pa_nil) pa_nil)))))
  pss_nil)
  (pss_cons (ps_par (i := 2) (j := 3) (by rfl) nd rfl rfl (by decide) rfl rfl (pa_cons (pe_lst pa_nil) (pa_cons pe_int pa_nil)) (by rfl))
  (pss_cons (ps_while PassesOwn.never (pt_cmpR op_lt (pv 3) (pe_callB Tw.cr_lenS (by rfl) T.u_len (by decide +kernel) (pa_cons (pv 0) pa_nil)) (nomark _))
  (pss_one (ps_if (PW.pt (pw_and (pt_cmpR op_eq (pe_ix ix_str (pv 0) (pv 3) (fun _ _ => rfl)) pe_str (nomark _)) (pw_and1 (pt_cmpR op_ne (pv 1) pe_str (nomark _)))))
  (pss_cons (ps_set (i := 4) nd rfl (Or.inl rfl) (pe_call (ok_l_hole T) (hr.mono (by decide)) (by rfl) T.g_l_hole T.F_l_hole.kp T.b_l_hole .nil pass0 (pa_cons (pv 0) (pa_cons (pv 3) (pa_cons (pv 1) pa_nil)))))
  (pss_cons (ps_if (pt_cmpR Eg.opr_isN (pv 4) pe_non (nomark _))
  (pss_one (ps_ret (pe_tup (pa_cons (pv 3) (pa_cons (pv 2) pa_nil)))))
  pss_nil)
  (pss_cons (ps_expr (pe_bm PySem.F.plainAttrs_list PySem.F.slot_list_append PySem.F.type_list_append mt_append (pv 2) (pa_cons (pv 4) pa_nil)))
  (pss_one (ps_set (i := 3) nd rfl (Or.inl rfl) (pe_op op_add (pe_op op_add (pv 3) (pe_callB Tw.cr_lenS (by rfl) T.u_len (by decide +kernel) (pa_cons (pv 4) pa_nil))) pe_int))))))
  (pss_one (ps_if (PW.pt (pw_or (pt_cmpR op_in_seq (pe_ix ix_str (pv 0) (pv 3) (fun _ _ => rfl)) (pe_lst (pa_cons pe_str (pa_cons pe_str pa_nil))) (by rfl)) (pw_or1 (pt_not (pt_chain Tw.op_leS Tw.op_leS pe_str (pe_ix ix_str (pv 0) (pv 3) (fun _ _ => rfl)) pe_str)))))
  (pss_one (ps_ret (pe_tup (pa_cons (pv 3) (pa_cons (pv 2) pa_nil)))))
  (pss_one (ps_set (i := 3) nd rfl (Or.inl rfl) (pe_op op_add (pv 3) pe_int))))))))
  (pss_one (ps_ret (pe_tup (pa_cons pe_non (pa_cons (pv 2) pa_nil)))))))), ?_⟩
    refine Eg.w_sig (σ := [some x, some (.str kind), none, none, none]) rfl ?_
    rcases h with ⟨no, q⟩ | ⟨ts, tl, rfl, hl, n37, hok, hbad, q⟩
    · walk_at "go"
      refine isi_noS no ?_
      walk_at "go"
      intro e he
      walk_at "go"
      intro p hp
      refine q p e _ ?_ he upd_same (Eg.upd_old upd_same hp) fun c o z => Eg.upd_old (Eg.upd_old z he) hp
      exact Eg.none_back hp
    generalize hL : flat ts ++ tl = L at hl
    have hl1 : L.length < 100000 := by omega
    walk_at "go"
    intro f hf
    have h1f : upd H f (.lst []) f = some (.lst []) := upd_same
    have fresh : ∀ c o, H c = some o → c ≠ f := fun c o e => ne_of_none e hf
    walk_at "go"
    refine ⟨fun m σ' H' => ∃ (v4 : Option V) (pre rest : List Tk), m = rest.length ∧ σ' = [some (.str (S L)), some (.str kind), some (.ref f), some (.int (((flat pre).length : Nat) : Int)), v4] ∧ ts = pre ++ rest ∧ H' f = some (.lst ((hos pre).map fun k => V.str (S k))) ∧ Same H H',
      ⟨_, none, [], ts, rfl, rfl, rfl, h1f, fun c o e => Eg.upd_old e hf⟩, ?_⟩
    rintro m _ H1 ⟨v4, pre, rest, rfl, rfl, hts, h1f, s1⟩
    have fl0 : (flat pre).length + (flat rest).length + tl.length = L.length := by rw [← hL, hts, flat_app, List.length_append, List.length_append]
    have hLe : L = flat pre ++ (flat rest ++ tl) := by rw [← hL, hts, flat_app, List.append_assoc]
    have hpl := hos_len pre
    have fpl := flat_len pre
    have atc : ∀ {c : Nat} {r : List Nat}, flat rest ++ tl = c :: r → L[(flat pre).length]? = some c := fun e => by
      rw [hLe, List.getElem?_append_right (Nat.le_refl _), Nat.sub_self, e]
      rfl
    -- the test of a sign that is no brace, or stands in a literal
    cases rest with
    | nil =>
      rw [List.append_nil] at hts
      subst hts
      rcases hbad with rfl | hbad
      · walk_at "go"
        refine Eg.brDF (by
          have e0 : (flat []).length = 0 := rfl
          have e1 : ([] : List Nat).length = 0 := rfl
          omega) ?_
        walk_at "go"
        intro p hp
        refine q p f _ (s1.free hp) hf upd_same (Eg.upd_old h1f hp) fun c o e => Eg.upd_old (s1 _ _ e) hp
      · cases tl with
        | nil => exact False.elim hbad
        | cons c r =>
          have hat := atc (c := c) (r := r) rfl
          have e0 : (flat []).length = 0 := rfl
          rw [List.length_cons] at fl0
          have av : atV ts (c :: r) = .int (((flat ts).length : Nat) : Int) := if_neg (fun z => nomatch z)
          rw [av] at q
          have fin : ∀ (H2 : Hp) (p : Addr), Same H1 H2 → H2 p = none → Q (.ref p) (upd H2 p (.tup [.int (((flat ts).length : Nat) : Int), .ref f])) := fun H2 p s2 hp =>
            q p f _ (s1.free (s2.free hp)) hf upd_same (Eg.upd_old (s2 _ _ h1f) hp) fun c o e => Eg.upd_old (s2 _ _ (s1 _ _ e)) hp
          walk_at "go"
          refine Eg.brDT (by omega) ?_
          refine ⟨fun σ' H' => ∃ m', m' < ([] : List Tk).length ∧ _, fun σ' H' h => h, ?_⟩
          walk_at "go"
          refine Tw.c_ixS hl1 rfl hat ?_
          walk_at "go"
          by_cases e1 : c = 123 ∧ kind ≠ "literal"
          · obtain ⟨rfl, hk1⟩ := e1
            have kn : decide (V.str kind = V.str "literal") = false := decide_eq_false fun z => hk1 (V.str.inj z)
            have br : decide (V.str (S [123]) = V.str "{") = true := by
              rw [show ("{" : Str) = S [123] by decide +kernel, decide_eq_true rfl]
            have bad := (bad_br hk1).mp hbad
            rw [br]
            walk_at "go"
            rw [kn]
            walk_at "go"
            refine ⟨L, flat ts, r, _, kind, rfl, hLe, rfl, hl, fun H2 s2 => ?_⟩
            rw [hole_bad bad]
            walk_at "go"
            rw [decide_eq_true rfl]
            walk_at "go"
            intro p hp
            exact fin H2 p s2 hp
          · have lb := bad_lit e1 hbad
            have c37 : c ≠ 37 := fun z => n37 (z ▸ List.mem_cons_self)
            have odd : (c = 123 ∨ c = 125) ∨ ¬ 32 ≤ c ∨ ¬ c ≤ 126 := by
              by_cases h1 : c = 123 ∨ c = 125
              · exact .inl h1
              · refine .inr (Classical.byContradiction fun z => ?_)
                have : litB c = true := by
                  unfold litB
                  simp only [Bool.and_eq_true, decide_eq_true_eq]
                  omega
                rw [this] at lb
                cases lb
            by_cases e2 : V.str (S [c]) = V.str "{"
            case' pos =>
              have c123 : c = 123 := by
                have z := V.str.inj e2
                rw [show ("{" : Str) = S [123] by decide +kernel] at z
                exact (List.cons.inj (S_inj z)).1
              have kl : kind = "literal" := Classical.byContradiction fun z => e1 ⟨c123, z⟩
              rw [decide_eq_true e2]
              walk_at "go"
              rw [decide_eq_true (show V.str kind = V.str "literal" by rw [kl])]
              walk_at "go"
            case' neg =>
              rw [decide_eq_false e2]
              walk_at "go"
            all_goals
              refine Tw.c_ixS hl1 rfl hat ?_
              walk_at "go"
              intro u hu
              refine Tw.c_in (k := .inr (S [c])) (ks := [.inr "{", .inr "}"]) upd_same ?_
              have s2 : Same H1 (upd H1 u (.lst [.str "{", .str "}"])) := fun c o e => Eg.upd_old e hu
              generalize upd H1 u (.lst [.str "{", .str "}"]) = H2 at s2 ⊢
              rw [in_brs]
              by_cases h1 : c = 123 ∨ c = 125
              · rw [decide_eq_true h1]
                walk_at "go"
                intro p hp
                exact fin H2 p s2 hp
              · rw [decide_eq_false h1]
                have odd := odd.resolve_left h1
                walk_at "go"
                refine Tw.c_ixS hl1 rfl hat ?_
                walk_at "go"
                rw [show (" " : Str) = S [32] by decide +kernel, show ("~" : Str) = S [126] by decide +kernel]
                refine Tw.c_leS ?_
                by_cases h32 : 32 ≤ c
                · rw [decide_eq_true h32]
                  walk_at "go"
                  rw [decide_eq_false (odd.resolve_left fun z => z h32)]
                  walk_at "go"
                  intro p hp
                  exact fin H2 p s2 hp
                · rw [decide_eq_false h32]
                  walk_at "go"
                  intro p hp
                  exact fin H2 p s2 hp
    | cons t rest =>
      have rt := hok t (by rw [hts]; exact List.mem_append.mpr (.inr List.mem_cons_self))
      cases t with
      | ch c =>
        have rt : litB c = true := rt
        have hat := atc (c := c) (r := flat rest ++ tl) rfl
        have ef : flat (.ch c :: rest) = c :: flat rest := rfl
        rw [ef, List.length_cons] at fl0
        walk_at "go"
        refine Eg.brDT (by omega) ?_
        refine ⟨fun σ' H' => ∃ m', m' < (Tk.ch c :: rest).length ∧ _, fun σ' H' h => h, ?_⟩
        walk_at "go"
        refine Tw.c_ixS hl1 rfl hat ?_
        walk_at "go"
        rw [lit_ne rt]
        walk_at "go"
        refine Tw.c_ixS hl1 rfl hat ?_
        walk_at "go"
        intro u hu
        refine Tw.c_in (k := .inr (S [c])) (ks := [.inr "{", .inr "}"]) upd_same ?_
        have s2 : Same H1 (upd H1 u (.lst [.str "{", .str "}"])) := fun c o e => Eg.upd_old e hu
        generalize upd H1 u (.lst [.str "{", .str "}"]) = H2 at s2 ⊢
        unfold litB at rt
        simp only [Bool.and_eq_true, decide_eq_true_eq] at rt
        rw [in_brs, decide_eq_false (fun z => z.elim rt.1.2 rt.2)]
        walk_at "go"
        refine Tw.c_ixS hl1 rfl hat ?_
        walk_at "go"
        rw [show (" " : Str) = S [32] by decide +kernel, show ("~" : Str) = S [126] by decide +kernel]
        refine Tw.c_leS ?_
        rw [decide_eq_true (show 32 ≤ c from rt.1.1.1.1)]
        walk_at "go"
        rw [decide_eq_true (show c ≤ 126 from rt.1.1.1.2)]
        walk_at "go"
        refine ⟨rest.length, Nat.lt_succ_self _, v4, pre ++ [.ch c], rest, rfl, ?_, ?_, ?_, s1.trans s2⟩
        · rw [flat_app, List.length_append]
          rfl
        · rw [hts, List.append_assoc]
          rfl
        · rw [hos_app]
          show _ = some (HO.lst (List.map _ (hos pre ++ [])))
          rw [List.append_nil]
          exact s2 _ _ h1f
      | ho k =>
        obtain ⟨hk1, hk2, hk3⟩ := rt
        have ef : flat (.ho k :: rest) = 123 :: (k ++ 125 :: flat rest) := rfl
        have hat := atc (c := 123) (r := k ++ 125 :: flat rest ++ tl) rfl
        rw [ef, List.length_cons, List.length_append, List.length_cons] at fl0
        have kn : decide (V.str kind = V.str "literal") = false := decide_eq_false fun z => hk1 (V.str.inj z)
        have br : decide (V.str (S [123]) = V.str "{") = true := by
          rw [show ("{" : Str) = S [123] by decide +kernel, decide_eq_true rfl]
        walk_at "go"
        refine Eg.brDT (by omega) ?_
        refine ⟨fun σ' H' => ∃ m', m' < (Tk.ho k :: rest).length ∧ _, fun σ' H' h => h, ?_⟩
        walk_at "go"
        refine Tw.c_ixS hl1 rfl hat ?_
        walk_at "go"
        rw [br]
        walk_at "go"
        rw [kn]
        walk_at "go"
        refine ⟨L, flat pre, k ++ 125 :: (flat rest ++ tl), _, kind, rfl, by rw [hLe, ef]; simp, rfl, hl, fun H2 s2 => ?_⟩
        rw [hole_at rfl hk2, if_pos hk3]
        have h2f := s2 _ _ h1f
        have zl : ((hos pre).map fun k => V.str (S k)).length < 100000 := by rw [List.length_map]; omega
        walk_at "go"
        rw [decide_eq_false (fun z => nomatch z)]
        have kl1 : k.length < 100000 := by omega
        walk_at "go"
        refine ⟨rest.length, Nat.lt_succ_self _, some (.str (S k)), pre ++ [.ho k], rest, rfl, ?_, ?_, ?_, fun c o e => Eg.upd_mut (fresh c o e) (s2 _ _ (s1 _ _ e))⟩
        · have : ((flat (pre ++ [.ho k])).length : Nat) = (flat pre).length + (k.length + 2) := by
            rw [flat_app, List.length_append]
            show _ + (123 :: (k ++ 125 :: [])).length = _
            rw [List.length_cons, List.length_append]
            rfl
          rw [this]
          have e : (((flat pre).length : Nat) : Int) + ((k.length : Nat) : Int) + 2 = (((flat pre).length + (k.length + 2) : Nat) : Int) := by omega
          rw [← e]
          rfl
        · rw [hts, List.append_assoc]
          rfl
        · rw [upd_same, hos_app, List.map_append]
          rfl
end
end LW
end

section
local macro_rules | `(tactic| walk_at "tx") => `(tactic| first
  | with_reducible refine Ex.w_methKS ?_
  | with_reducible refine Ex.w_callS ?_
  | with_reducible refine Ex.w_rs ?_
  | with_reducible refine Ex.w_xg ?_)
namespace LW
open PySem L2 SX Tx Tl Rp
/-! odd things: no texts, no values -/
/-- a thing that stands off X, with its data -/
inductive Odd (X : List Addr) (H : Hp) : V → PyData → Prop
  | non : Odd X H .non .none
  | bl (b : Bool) : Odd X H (.bl b) (.bool b)
  | int (i : Int) : i.natAbs ≤ 10 ^ 40 + 7 → Odd X H (.int i) (.int i)
  | lst {a : Addr} {xs : List V} : a ∉ X → H a = some (.lst xs) → (∀ x ∈ xs, Rd.Flat x) → Rn.Okn 2 4000 (.list (xs.map Rd.flD)) → Odd X H (.ref a) (.list (xs.map Rd.flD))
  | tup {a : Addr} {xs : List V} : a ∉ X → H a = some (.tup xs) → (∀ x ∈ xs, Rd.Flat x) → Rn.Okn 2 4000 (.tuple (xs.map Rd.flD)) → Odd X H (.ref a) (.tuple (xs.map Rd.flD))
  | dic {a : Addr} : a ∉ X → H a = some (.dK []) → Odd X H (.ref a) (.dict [])
theorem Odd.mv {X : List Addr} {H H' : Hp} {v : V} {d : PyData} (h : Odd X H v d) (k : ∀ a o, H a = some o → a ∉ X → H' a = some o) : Odd X H' v d := by
  cases h with
  | non => exact .non
  | bl b => exact .bl b
  | int i h => exact .int i h
  | lst n e f o => exact .lst n (k _ _ e n) f o
  | tup n e f o => exact .tup n (k _ _ e n) f o
  | dic n e => exact .dic n (k _ _ e n)
theorem Odd.keep {X : List Addr} {H H' : Hp} {v : V} {d : PyData} (h : Odd X H v d) (s : Same H H') : Odd X H' v d := h.mv fun a o e _ => s a o e
theorem Odd.sub {X Y : List Addr} {H : Hp} {v : V} {d : PyData} (h : Odd X H v d) (s : ∀ y ∈ Y, y ∈ X) : Odd Y H v d := by
  cases h with
  | non => exact .non
  | bl b => exact .bl b
  | int i h => exact .int i h
  | lst n e f o => exact .lst (fun z => n (s _ z)) e f o
  | tup n e f o => exact .tup (fun z => n (s _ z)) e f o
  | dic n e => exact .dic (fun z => n (s _ z)) e
theorem Odd.add {X : List Addr} {H : Hp} {v : V} {d : PyData} {y : Addr} (h : Odd X H v d) (hy : H y = none) : Odd (y :: X) H v d := by
  cases h with
  | non => exact .non
  | bl b => exact .bl b
  | int i h => exact .int i h
  | lst n e f o => exact .lst (fun z => (List.mem_cons.mp z).elim (ne_of_none e hy) n) e f o
  | tup n e f o => exact .tup (fun z => (List.mem_cons.mp z).elim (ne_of_none e hy) n) e f o
  | dic n e => exact .dic (fun z => (List.mem_cons.mp z).elim (ne_of_none e hy) n) e
theorem Odd.noS {X : List Addr} {H : Hp} {v : V} {d : PyData} (h : Odd X H v d) : NoS H v := by
  cases h with
  | non => exact .non
  | bl b => exact .bl b
  | int i _ => exact .int i
  | lst _ e _ _ => exact .lst e
  | tup _ e _ _ => exact .tup e
  | dic _ e => exact .dK e
theorem dn_flat {K : PySem.W.Frag} {H : Hp} {v : V} (h : Rd.Flat v) : Rn.Dn K H v (Rd.flD v) := by
  cases v with
  | int i => exact .int i
  | str x => exact .str x
  | bl b => exact .bl b
  | non => exact .non
  | _ => exact False.elim h
theorem dn_flats {K : PySem.W.Frag} {H : Hp} : ∀ {xs : List V}, (∀ x ∈ xs, Rd.Flat x) → Rn.DnAll K H xs (xs.map Rd.flD)
  | [], _ => .nil
  | x :: r, h => .cons (dn_flat (h x List.mem_cons_self)) (dn_flats fun y hy => h y (List.mem_cons_of_mem _ hy))
theorem Odd.dn {K : PySem.W.Frag} {X : List Addr} {H : Hp} {v : V} {d : PyData} (h : Odd X H v d) : Rn.Dn K H v d := by
  cases h with
  | non => exact .non
  | bl b => exact .bl b
  | int i _ => exact .int i
  | lst _ e f _ => exact .lst (SqL.of e) (dn_flats f)
  | tup _ e f _ => exact .tup (SqT.of e) (dn_flats f)
  | dic _ e => exact .dic e rfl .nil
theorem okn_int {i : Int} (h : i.natAbs ≤ 10 ^ 40 + 7) : Rn.Okn 0 200 (.int i) := by
  have h2 : i.natAbs < 2 ^ 137 := Nat.lt_of_le_of_lt h (by decide +kernel)
  have h3 : i.natAbs < 10 ^ 41 := Nat.lt_of_le_of_lt h (by decide +kernel)
  have hl : i.natAbs.log2 < 137 := by
    by_cases z : i.natAbs = 0
    · rw [z]
      decide
    · exact (Nat.log2_lt z).mpr h2
  refine ⟨?_, Nat.le_refl _, ?_, ?_⟩
  · simp only [PyData.showable]
    exact decide_eq_true (by omega)
  · simp only [PyData.leavesShort, PyData.shown]
    refine decide_eq_true ?_
    show (Str.ofString (toString i)).length ≤ 200
    rw [PySem.ofString_length]
    exact Nat.le_trans (int_text_length_le10 (k := 41) (by decide) h3) (by decide)
  · simp only [PyData.weight]
    split <;> omega
theorem Odd.ok {X : List Addr} {H : Hp} {v : V} {d : PyData} (h : Odd X H v d) : Rn.Okn 2 4000 d := by
  cases h with
  | non => exact ⟨rfl, by decide, rfl, by simp only [PyData.weight]; omega⟩
  | bl b => exact ⟨rfl, by simp only [PyData.depth]; omega, rfl, by simp only [PyData.weight]; omega⟩
  | int i h => exact (okn_int h).mono (by decide) (by decide)
  | lst _ _ _ o => exact o
  | tup _ _ _ o => exact o
  | dic _ _ => exact ⟨by simp only [PyData.showable, PyData.showableKv], by simp only [PyData.depth, PyData.depthKv]; omega, by simp only [PyData.leavesShort, PyData.leavesShortKv], by simp only [PyData.weight, PyData.weightKv]; omega⟩
/-- no value -/
inductive NoV (H : Hp) : V → Prop
  | non : NoV H .non
  | bl (b : Bool) : NoV H (.bl b)
  | big (i : Int) : ¬ ((if i < 0 then -i else i) < most) → NoV H (.int i)
  | lst {a : Addr} {xs : List V} : H a = some (.lst xs) → NoV H (.ref a)
  | tup {a : Addr} {xs : List V} : H a = some (.tup xs) → NoV H (.ref a)
  | dK {a : Addr} {ks : List (Key × V)} : H a = some (.dK ks) → NoV H (.ref a)
theorem NoV.keep {H H' : Hp} {x : V} (h : NoV H x) (s : Same H H') : NoV H' x := by
  cases h with
  | non => exact .non
  | bl b => exact .bl b
  | big i hi => exact .big i hi
  | lst e => exact .lst (s _ _ e)
  | tup e => exact .tup (s _ _ e)
  | dK e => exact .dK (s _ _ e)
/-- what may be passed as a value: a value or an odd thing, with its data -/
inductive Vl (X : List Addr) (H : Hp) : V → PyData → Prop
  | ok {v : V} : DV v → Vl X H v (Rd.flD v)
  | odd {v : V} {d : PyData} : Odd X H v d → (∀ i, v = .int i → ¬ ((if i < 0 then -i else i) < most)) → Vl X H v d
theorem Vl.mv {X : List Addr} {H H' : Hp} {v : V} {d : PyData} (h : Vl X H v d) (k : ∀ a o, H a = some o → a ∉ X → H' a = some o) : Vl X H' v d := by
  cases h with
  | ok h => exact .ok h
  | odd h n => exact .odd (h.mv k) n
theorem Vl.keep {X : List Addr} {H H' : Hp} {v : V} {d : PyData} (h : Vl X H v d) (s : Same H H') : Vl X H' v d := h.mv fun a o e _ => s a o e
theorem Vl.sub {X Y : List Addr} {H : Hp} {v : V} {d : PyData} (h : Vl X H v d) (s : ∀ y ∈ Y, y ∈ X) : Vl Y H v d := by
  cases h with
  | ok h => exact .ok h
  | odd h n => exact .odd (h.sub s) n
theorem Vl.add {X : List Addr} {H : Hp} {v : V} {d : PyData} {y : Addr} (h : Vl X H v d) (hy : H y = none) : Vl (y :: X) H v d := by
  cases h with
  | ok h => exact .ok h
  | odd h n => exact .odd (h.add hy) n
/-- is a value, as a truth -/
def valB : V → Bool
  | .str _ => true
  | .int i => decide ((if i < 0 then -i else i) < most)
  | _ => false
theorem Vl.cases {X : List Addr} {H : Hp} {v : V} {d : PyData} (h : Vl X H v d) : (IsVal v ∧ valB v = true) ∨ (NoV H v ∧ valB v = false) := by
  cases h with
  | ok h =>
    cases h with
    | int i hi => exact .inl ⟨.int i hi, decide_eq_true hi⟩
    | str l _ _ => exact .inl ⟨.str l, rfl⟩
  | odd h n =>
    cases h with
    | non => exact .inr ⟨.non, rfl⟩
    | bl b => exact .inr ⟨.bl b, rfl⟩
    | int i _ => exact .inr ⟨.big i (n i rfl), decide_eq_false (n i rfl)⟩
    | lst _ e _ _ => exact .inr ⟨.lst e, rfl⟩
    | tup _ e _ _ => exact .inr ⟨.tup e, rfl⟩
    | dic _ e => exact .inr ⟨.dK e, rfl⟩
theorem flat_dv' {v : V} (h : DV v) : Rd.Flat v := by
  cases h with
  | int i _ => trivial
  | str l _ _ => trivial
theorem okn_dv {v : V} (h : DV v) : Rn.Okn 0 200 (Rd.flD v) := by
  cases h with
  | int i hi =>
    refine okn_int ?_
    unfold most at hi
    split at hi <;> omega
  | str l hl hc => exact (Rn.Okn.of (Ok.str (l := l) fun c h => Nat.lt_of_le_of_lt (hc c h).2 (by decide))).mono (Nat.le_refl _) (by omega)
theorem Vl.dn {K : PySem.W.Frag} {X : List Addr} {H : Hp} {v : V} {d : PyData} (h : Vl X H v d) : Rn.Dn K H v d := by
  cases h with
  | ok h => exact dn_flat (flat_dv' h)
  | odd h _ => exact h.dn
theorem Vl.okn {X : List Addr} {H : Hp} {v : V} {d : PyData} (h : Vl X H v d) : Rn.Okn 2 4000 d := by
  cases h with
  | ok h => exact (okn_dv h).mono (by decide) (by decide)
  | odd h _ => exact h.ok
theorem bag_ne {b D : Addr} {H : Hp} (h : BagB H b) (hD : H D = none) : D ≠ b := by
  obtain ⟨bs, eb⟩ := h.ob
  exact (ne_of_none eb hD).symm
theorem e40 : (10 : Int) ^ Int.toNat 40 = most := by decide +kernel
theorem okn_l0 : Rn.Okn 2 4000 (.list (([] : List V).map Rd.flD)) := .of ((Ok.list (k := 0) (N := 0) (ds := []) fun _ z => nomatch z).mono (by decide) (by decide))
theorem okn_t0 : Rn.Okn 2 4000 (.tuple (([] : List V).map Rd.flD)) := .of ((Ok.tuple (k := 0) (N := 0) (ds := []) fun _ z => nomatch z).mono (by decide) (by decide))
theorem ok_one : ∀ d ∈ [PyData.int 1], Ok 0 200 d := fun d hd => by
  rw [List.mem_singleton.mp hd]
  exact Ok.int (by decide)
theorem okn_l1 : Rn.Okn 2 4000 (.list (([.int 1] : List V).map Rd.flD)) := .of ((Ok.list ok_one).mono (by decide) (by decide))
theorem okn_t1 : Rn.Okn 2 4000 (.tuple (([.int 1] : List V).map Rd.flD)) := .of ((Ok.tuple ok_one).mono (by decide) (by decide))
def sp_l_odd : Sp := fun vs H Q _ => ∃ b : Addr, vs = [.ref b] ∧ BagB H b ∧ ∀ (v : V) (d : PyData) (H' : Hp), (∀ X : List Addr, (∀ x ∈ X, ∃ o, H x = some o) → Odd X H' v d) → (∀ i, v = .int i → ¬ ((if i < 0 then -i else i) < most)) → BagB H' b → KeptB b H H' → Q v H'
def sp_l_is_value : Sp := fun vs H Q _ => ∃ v : V, vs = [v] ∧ ((IsVal v ∧ Q (.bl true) H) ∨ (NoV H v ∧ Q (.bl false) H))
def sp_is_valueX : Sp := fun vs H Q _ => ∃ v, vs = [v] ∧ ((IsVal v ∧ Q (.bl true) H) ∨ (NoV H v ∧ Q (.bl false) H))
def sp_check_valueX (CB : Addr) : Sp := fun vs H Q E => ∃ v, vs = [v] ∧ ((IsVal v ∧ Q .non H) ∨ (NoV H v ∧ ∀ (d : Addr) (H' : Hp), H d = none → H' d = some (.xd [("value", v)]) → Same H H' → E (.ref CB) (some d) H'))
section
variable {P : Program} {w : World} {K : PySem.W.Frag} {mg : Str → Option Value} {base : Heap} {Z : Ad}
theorem isi_noV {K : PySem.W.Frag} {H : Hp} {x : V} {Q : VK} (h : NoV H x) (q : Q (.bl false) H) : rIsi K [x, .ty "str"] H Q := by
  refine isi_noS ?_ q
  cases h with
  | non => exact .non
  | bl b => exact .bl b
  | big i _ => exact .int i
  | lst e => exact .lst e
  | tup e => exact .tup e
  | dK e => exact .dK e
theorem ok_is_valueX (T : Txt K mg Z) : FnOk P w K mg base CX0 1 Z.a_is_value Z.d_is_value ["thing"] sp_is_valueX := by
  refine T.F_is_value.ok sc_is_value (fun vs H Q E h => ?_) (fun cdv A outer s H vs Q E hr h => ?_)
  · obtain ⟨v, rfl, _⟩ := h
    rfl
  · obtain ⟨v, rfl, h⟩ := h
    have nd := sc_is_value.nd
    refine ⟨_, (pss_cons (ps_if (pt_val (pe_callB call_isi (by rfl) T.u_isinstance (by decide +kernel) (pa_cons (pv 0) (pa_cons (pe_bltn (v := .ty "str") (u := .type "str") (by rfl) T.u_str (by decide +kernel) rfl) pa_nil))))
  (pss_one (ps_ret pe_bl))
  pss_nil)
  (pss_one (ps_ret (pe_and (pe_callB call_isi (by rfl) T.u_isinstance (by decide +kernel) (pa_cons (pv 0) (pa_cons (pe_bltn (v := .ty "int") (u := .type "int") (by rfl) T.u_int (by decide +kernel) rfl) pa_nil))) (pe_and (pe_not (pe_callB call_isi (by rfl) T.u_isinstance (by decide +kernel) (pa_cons (pv 0) (pa_cons (pe_bltn (v := .ty "bool") (u := .type "bool") (by rfl) T.u_bool (by decide +kernel) rfl) pa_nil)))) (pe_one (pe_cmpR op_lt (pe_callB Eg.cr_abs (by rfl) T.u_abs (by decide +kernel) (pa_cons (pv 0) pa_nil)) (Tw.pe_globS (by rfl) T.g_MOST_VALUE) (nomark _)))))))), ?_⟩
    refine Eg.w_sig (σ := [some v]) rfl ?_
    walk_at "go"
    rcases h with ⟨hv, q⟩ | ⟨hv, q⟩
    · cases hv with
      | str l =>
        walk_at "go"
        exact q
      | int i hi =>
        refine Eg.c_isi (.ty _) (.base (.int i)) (kit_ty (b := "str") (r := false) (by decide +kernel)) ?_
        walk_at "go"
        refine Eg.c_isi (.ty _) (.base (.int i)) (kit_ty (b := "int") (r := true) (by decide +kernel)) ?_
        walk_at "go"
        refine Eg.c_isi (.ty _) (.base (.int i)) (kit_ty (b := "bool") (r := false) (by decide +kernel)) ?_
        walk_at "go"
        unfold most at hi
        rw [decide_eq_true hi]
        exact q
    · refine isi_noV hv ?_
      walk_at "go"
      cases hv with
      | non =>
        refine Eg.c_isi (.ty _) (.base .non) (kit_ty (b := "int") (r := false) (by decide +kernel)) ?_
        walk_at "go"
        exact q
      | bl b =>
        refine Eg.c_isi (.ty _) (.base (.bl b)) (kit_ty (b := "int") (r := true) (by decide +kernel)) ?_
        walk_at "go"
        refine Eg.c_isi (.ty _) (.base (.bl b)) (kit_ty (b := "bool") (r := true) (by decide +kernel)) ?_
        walk_at "go"
        exact q
      | big i hi =>
        refine Eg.c_isi (.ty _) (.base (.int i)) (kit_ty (b := "int") (r := true) (by decide +kernel)) ?_
        walk_at "go"
        refine Eg.c_isi (.ty _) (.base (.int i)) (kit_ty (b := "bool") (r := false) (by decide +kernel)) ?_
        walk_at "go"
        unfold most at hi
        rw [decide_eq_false hi]
        exact q
      | lst e =>
        refine Eg.c_isi (.ty _) (.base (.lst e)) (kit_ty (b := "int") (r := false) (by decide +kernel)) ?_
        walk_at "go"
        exact q
      | tup e =>
        refine Eg.c_isi (.ty _) (.base (.tup e)) (kit_ty (b := "int") (r := false) (by decide +kernel)) ?_
        walk_at "go"
        exact q
      | dK e =>
        refine Eg.c_isi (.ty _) (.base (.dK e)) (kit_ty (b := "int") (r := false) (by decide +kernel)) ?_
        walk_at "go"
        exact q
theorem ok_check_valueX (T : Txt K mg Z) : FnOk P w K mg base (L2.CX P w) 3 Z.a_check_value Z.d_check_value ["thing"] (sp_check_valueX Z.c_BadValue) := by
  refine T.F_check_value.okX sc_check_value (fun vs H Q E h => ?_) (fun cdv A outer s H vs Q E hr h => ?_)
  · obtain ⟨v, rfl, _⟩ := h
    rfl
  · obtain ⟨v, rfl, h⟩ := h
    have nd := sc_check_value.nd
    refine ⟨_, (pss_one (ps_if (pt_not (pt_val (pe_call (ok_is_valueX T) (hr.mono (by decide)) (by rfl) T.g_is_value T.F_is_value.kp T.b_is_value .nil pass0 (pa_cons (pv 0) pa_nil))))
  (pss_one (Ex.ps_rs rfl (takes_of rfl rfl rfl rfl) T.x_BadValue.oex T.x_BadValue.ini T.x_BadValue.fn (ok_BadValue_init T) (hr.mono (by decide)) T.b_BadValue_init pass0 (by rfl) T.g_BadValue (pa_cons (pv 0) pa_nil)))
  pss_nil)), ?_⟩
    refine Eg.w_sig (σ := [some v]) rfl ?_
    walk_at "go"
    rcases h with ⟨hv, q⟩ | ⟨hv, q⟩
    · refine ⟨v, rfl, .inl ⟨hv, ?_⟩⟩
      walk_at "go"
      exact q
    · refine ⟨v, rfl, .inr ⟨hv, ?_⟩⟩
      walk_at "go"
      exact Ex.c_mk1 fun d hd => q d _ hd upd_same fun c o e => Eg.upd_old e hd
theorem ok_l_odd (T : Txt K mg Z) : FnOk P w K mg base CX0 3 Z.a_l_odd Z.d_l_odd ["_law_bag_here"] sp_l_odd := by
  refine T.F_l_odd.ok sc_l_odd (fun vs H Q E h => ?_) (fun cdv A outer s H vs Q E hr h => ?_)
  · obtain ⟨b, rfl, _⟩ := h
    rfl
  · obtain ⟨b, rfl, hb, q⟩ := h
    have nd := sc_l_odd.nd
    have hu := hu_of hr
    refine ⟨_, (pss_one (ps_ret (pe_call (ok_l_of T) (hr.mono (by decide)) (by rfl) T.g_l_of T.F_l_of.kp T.b_l_of .nil pass0 (pa_cons (pv 0) (pa_cons (pe_lst (pa_cons pe_non (pa_cons pe_bl (pa_cons pe_bl (pa_cons (pe_op op_pow pe_int pe_int) (pa_cons (pe_un un_neg (pe_op op_pow pe_int pe_int)) (pa_cons (pe_op op_add (pe_op op_pow pe_int pe_int) pe_int) (pa_cons (pe_lst pa_nil) (pa_cons (pe_lst (pa_cons pe_int pa_nil)) (pa_cons (pe_tup (pa_cons pe_int pa_nil)) (pa_cons (pe_tup pa_nil) (pa_cons pe_dnewK pa_nil)))))))))))) pa_nil))))), ?_⟩
    refine Eg.w_sig (σ := [some (.ref b)]) rfl ?_
    walk_at "go"
    rw [e40]
    intro p1 h1
    have g1 : upd H p1 (.lst []) p1 = some (.lst []) := upd_same
    have s1 : Same H (upd H p1 (.lst [])) := fun c o e => Eg.upd_old e h1
    generalize upd H p1 (.lst []) = H1 at g1 s1 ⊢
    walk_at "go"
    intro p2 h2
    have g2 : upd H1 p2 (.lst [.int 1]) p2 = some (.lst [.int 1]) := upd_same
    have s2 : Same H1 (upd H1 p2 (.lst [.int 1])) := fun c o e => Eg.upd_old e h2
    generalize upd H1 p2 (.lst [.int 1]) = H2 at g2 s2 ⊢
    walk_at "go"
    intro p3 h3
    have g3 : upd H2 p3 (.tup [.int 1]) p3 = some (.tup [.int 1]) := upd_same
    have s3 : Same H2 (upd H2 p3 (.tup [.int 1])) := fun c o e => Eg.upd_old e h3
    generalize upd H2 p3 (.tup [.int 1]) = H3 at g3 s3 ⊢
    walk_at "go"
    intro p4 h4
    have g4 : upd H3 p4 (.tup []) p4 = some (.tup []) := upd_same
    have s4 : Same H3 (upd H3 p4 (.tup [])) := fun c o e => Eg.upd_old e h4
    generalize upd H3 p4 (.tup []) = H4 at g4 s4 ⊢
    walk_at "go"
    intro p5 h5
    have g5 : upd H4 p5 (.dK []) p5 = some (.dK []) := upd_same
    have s5 : Same H4 (upd H4 p5 (.dK [])) := fun c o e => Eg.upd_old e h5
    generalize upd H4 p5 (.dK []) = H5 at g5 s5 ⊢
    walk_at "go"
    intro p6 h6
    walk_at "go"
    have s05 := (((s1.trans s2).trans s3).trans s4).trans s5
    have s6 : Same H5 (upd H5 p6 (.lst [.non, .bl true, .bl false, .int most, .int (-most), .int (most + 7), .ref p1, .ref p2, .ref p3, .ref p4, .ref p5])) := fun c o e => Eg.upd_old e h6
    have hb5 := hb.keep s05
    have nb : p6 ≠ b := bag_ne hb5 h6
    refine ⟨b, p6, _, rfl, hb5.keep s6, upd_same, by simp, by simp, nb, fun v H' hv hb' f => ?_⟩
    have kk : KeptB b H H' := fun c o e n => (f c n).trans (s6 _ _ (s05 _ _ e))
    have ks : ∀ c o, H5 c = some o → c ≠ b → H' c = some o := fun c o e n => (f c n).trans (s6 _ _ e)
    have n1 : p1 ≠ b := bag_ne hb h1
    have n2 : p2 ≠ b := bag_ne (hb.keep s1) h2
    have n3 : p3 ≠ b := bag_ne (hb.keep (s1.trans s2)) h3
    have n4 : p4 ≠ b := bag_ne (hb.keep ((s1.trans s2).trans s3)) h4
    have n5 : p5 ≠ b := bag_ne (hb.keep (((s1.trans s2).trans s3).trans s4)) h5
    have j1 := ks _ _ (s5 _ _ (s4 _ _ (s3 _ _ (s2 _ _ g1)))) n1
    have j2 := ks _ _ (s5 _ _ (s4 _ _ (s3 _ _ g2))) n2
    have j3 := ks _ _ (s5 _ _ (s4 _ _ g3)) n3
    have j4 := ks _ _ (s5 _ _ g4) n4
    have j5 := ks _ _ g5 n5
    have off : ∀ {y : Addr} {X : List Addr}, H y = none → (∀ x ∈ X, ∃ o, H x = some o) → y ∉ X := fun hy hX z => by
      obtain ⟨o, e⟩ := hX _ z
      rw [hy] at e
      cases e
    have z2 := s1.free h2
    have z3 := (s1.trans s2).free h3
    have z4 := ((s1.trans s2).trans s3).free h4
    have z5 := (((s1.trans s2).trans s3).trans s4).free h5
    have fl : ∀ x ∈ ([.int 1] : List V), Rd.Flat x := fun x hx => by
      rw [List.mem_singleton.mp hx]
      trivial
    clear s1 s2 s3 s4 s5 s05 s6 g1 g2 g3 g4 g5 ks f n1 n2 n3 n4 n5 h2 h3 h4 h5 h6 nb hb5
    simp only [List.mem_cons, List.not_mem_nil, or_false] at hv
    have mb : most = 10 ^ 40 := by decide +kernel
    have mp : (0 : Int) < most := by decide +kernel
    have mn : most.natAbs = 10 ^ 40 := by decide +kernel
    rcases hv with rfl | rfl | rfl | rfl | rfl | rfl | rfl | rfl | rfl | rfl | rfl
    · exact q _ _ H' (fun X hX => .non) (fun i z => nomatch z) hb' kk
    · exact q _ _ H' (fun X hX => .bl true) (fun i z => nomatch z) hb' kk
    · exact q _ _ H' (fun X hX => .bl false) (fun i z => nomatch z) hb' kk
    · exact q _ _ H' (fun X hX => .int _ (by omega)) (fun i z => by cases z; rw [if_neg (by omega)]; omega) hb' kk
    · exact q _ _ H' (fun X hX => .int _ (by omega)) (fun i z => by cases z; rw [if_pos (by omega)]; omega) hb' kk
    · exact q _ _ H' (fun X hX => .int _ (by omega)) (fun i z => by cases z; rw [if_neg (by omega)]; omega) hb' kk
    · exact q _ _ H' (fun X hX => .lst (xs := []) (off h1 hX) j1 (fun _ z => nomatch z) okn_l0) (fun i z => nomatch z) hb' kk
    · exact q _ _ H' (fun X hX => .lst (xs := [.int 1]) (off z2 hX) j2 fl okn_l1) (fun i z => nomatch z) hb' kk
    · exact q _ _ H' (fun X hX => .tup (xs := [.int 1]) (off z3 hX) j3 fl okn_t1) (fun i z => nomatch z) hb' kk
    · exact q _ _ H' (fun X hX => .tup (xs := []) (off z4 hX) j4 (fun _ z => nomatch z) okn_t0) (fun i z => nomatch z) hb' kk
    · exact q _ _ H' (fun X hX => .dic (off z5 hX) j5) (fun i z => nomatch z) hb' kk
theorem join_facts : ∀ ts : List Str, (∀ t ∈ ts, ∀ c ∈ t.cps.toList, c ∈ (Str.join (S [32]) ts).cps.toList) ∧ (ts.map fun t => t.cps.toList.length + 1).sum ≤ (Str.join (S [32]) ts).cps.toList.length + 1
  | [] => ⟨(fun _ z => nomatch z), Nat.zero_le _⟩
  | [x] => ⟨fun t ht c hc => by
      rw [List.mem_singleton.mp ht] at hc
      exact hc, Nat.le_refl _⟩
  | x :: y :: r => by
    obtain ⟨h1, h2⟩ := join_facts (y :: r)
    have e : (Str.join (S [32]) (x :: y :: r)).cps.toList = x.cps.toList ++ ([32] ++ (Str.join (S [32]) (y :: r)).cps.toList) := by
      show ((x ++ S [32]) ++ Str.join (S [32]) (y :: r)).cps.toList = _
      have c2 : ∀ a b : Str, (a ++ b).cps.toList = a.cps.toList ++ b.cps.toList := fun a b => Array.toList_append
      rw [c2, c2, List.append_assoc]
    refine ⟨fun t ht c hc => ?_, ?_⟩
    · rw [e]
      rcases List.mem_cons.mp ht with rfl | ht
      · exact List.mem_append.mpr (.inl hc)
      · exact List.mem_append.mpr (.inr (List.mem_append.mpr (.inr (h1 t ht c hc))))
    · rw [e, List.map_cons, List.sum_cons, List.length_append, List.length_append]
      show _ + _ ≤ _ + (1 + _) + 1
      omega
theorem split_facts (l : List Nat) : (∀ t ∈ Txt.split (S l) (S [32]), ∀ c ∈ t.cps.toList, c ∈ l) ∧ ((Txt.split (S l) (S [32])).map fun t => t.cps.toList.length + 1).sum ≤ l.length + 1 := by
  have h := join_facts (Txt.split (S l) (S [32]))
  rw [StrLaws.join_split] at h
  exact h
theorem ok_str1 {z : Str} {l : List Nat} (e : z = S l) (hl : l.length ≤ 200) (hc : ∀ c ∈ l, c < 128) : ∀ d ∈ [PyData.str z], Ok 0 200 d := fun d hd => by
  rw [List.mem_singleton.mp hd, e]
  exact (Ok.str fun c h => Nat.lt_trans (hc c h) (by decide)).mono (Nat.le_refl _) hl
theorem okn_a : Rn.Okn 2 4000 (.list (([.str "a"] : List V).map Rd.flD)) := .of ((Ok.list (ok_str1 (z := "a") (l := [97]) (by decide +kernel) (by decide) (by decide))).mono (by decide) (by decide))
theorem okn_br : Rn.Okn 2 4000 (.tuple (([.str "{}"] : List V).map Rd.flD)) := .of ((Ok.tuple (ok_str1 (z := "{}") (l := [123, 125]) (by decide +kernel) (by decide) (by decide))).mono (by decide) (by decide))
def StrOk (v : V) : Prop := ∃ x : List Nat, v = .str (S x) ∧ x.length ≤ 11 ∧ ∀ c ∈ x, c ≠ 37 ∧ c < 128
theorem strOk {z : Str} (h : (decide (z.cps.toList.length ≤ 11) && z.cps.toList.all fun c => c != 37 && decide (c < 128)) = true) : StrOk (.str z) := by
  simp only [Bool.and_eq_true, decide_eq_true_eq, List.all_eq_true, bne_iff_ne] at h
  exact ⟨z.cps.toList, rfl, h.1, h.2⟩
def sp_l_spoilt : Sp := fun vs H Q _ => ∃ (b : Addr) (l : List Nat), vs = [.ref b, .str (S l)] ∧ BagB H b ∧ l.length ≤ 2000 ∧ (∀ c ∈ l, c ≠ 37 ∧ c < 128) ∧
  (∀ (v : V) (d : PyData) (H' : Hp), (∀ X : List Addr, (∀ x ∈ X, ∃ o, H x = some o) → Odd X H' v d) → BagB H' b → KeptB b H H' → Q v H') ∧
  (∀ (m : List Nat) (H' : Hp), m.length ≤ l.length + 11 → (∀ c ∈ m, c ≠ 37 ∧ c < 128) → BagB H' b → KeptB b H H' → Q (.str (S m)) H')
set_option maxHeartbeats 8000000 in
theorem ok_l_spoilt (T : Txt K mg Z) : FnOk P w K mg base CX0 3 Z.a_l_spoilt Z.d_l_spoilt ["_law_bag_here", "_law_text_here"] sp_l_spoilt := by
  refine T.F_l_spoilt.ok sc_l_spoilt (fun vs H Q E h => ?_) (fun cdv A outer s H vs Q E hr h => ?_)
  · obtain ⟨b, l, rfl, _⟩ := h
    rfl
  · obtain ⟨b, l, rfl, hb, hl, hc, q1, q2⟩ := h
    have nd := sc_l_spoilt.nd
    have hu := hu_of hr
    refine ⟨_, (pss_cons (ps_if (pt_cmpR op_eq (pe_call (ok_l_take T) (hr.mono (by decide)) (by rfl) T.g_l_take T.F_l_take.kp T.b_l_take .nil pass0 (pa_cons (pv 0) (pa_cons pe_int pa_nil))) pe_int (nomark _))
  (pss_one (ps_ret (pe_call (ok_l_of T) (hr.mono (by decide)) (by rfl) T.g_l_of T.F_l_of.kp T.b_l_of .nil pass0 (pa_cons (pv 0) (pa_cons (pe_lst (pa_cons pe_non (pa_cons pe_int (pa_cons pe_bl (pa_cons (pe_lst (pa_cons pe_str pa_nil)) (pa_cons (pe_tup (pa_cons pe_str pa_nil)) (pa_cons (pe_split (pv 1) pe_str) (pa_cons (pe_un un_neg pe_int) (pa_cons pe_dnewK pa_nil))))))))) pa_nil)))))
  pss_nil)
  (pss_cons (ps_set (i := 2) nd rfl (Or.inl rfl) (pe_lst (pa_cons pe_str (pa_cons pe_str (pa_cons pe_str (pa_cons pe_str (pa_cons pe_str (pa_cons pe_str (pa_cons pe_str (pa_cons pe_str (pa_cons pe_str (pa_cons pe_str pa_nil))))))))))))
  (pss_cons (ps_set (i := 2) nd rfl (Or.inl rfl) (pe_op op_cat (pv 2) (pe_lst (pa_cons pe_str (pa_cons pe_str (pa_cons pe_str (pa_cons pe_str (pa_cons pe_str (pa_cons pe_str (pa_cons pe_str (pa_cons pe_str (pa_cons pe_str (pa_cons pe_str (pa_cons pe_str pa_nil))))))))))))))
  (pss_cons (ps_set (i := 3) nd rfl (Or.inl rfl) (pe_call (ok_l_take T) (hr.mono (by decide)) (by rfl) T.g_l_take T.F_l_take.kp T.b_l_take .nil pass0 (pa_cons (pv 0) (pa_cons (pe_op op_add (pe_callB Tw.cr_lenS (by rfl) T.u_len (by decide +kernel) (pa_cons (pv 1) pa_nil)) pe_int) pa_nil))))
  (pss_one (ps_ret (pe_op Es.op_addS (pe_op Es.op_addS (pe_slice sl_str (pv 1) po_none (po_some (pv 3))) (pe_call (ok_l_of T) (hr.mono (by decide)) (by rfl) T.g_l_of T.F_l_of.kp T.b_l_of .nil pass0 (pa_cons (pv 0) (pa_cons (pv 2) pa_nil)))) (pe_slice sl_str (pv 1) (po_some (pv 3)) po_none)))))))), ?_⟩
    refine Eg.w_sig (σ := [some (.ref b), some (.str (S l)), none, none]) rfl ?_
    walk_at "go"
    refine ⟨b, _, rfl, hb, by decide, by decide, fun r H0 r0 r1 hb0 f0 => ?_⟩
    have k0 : KeptB b H H0 := .fr f0
    walk_at "go"
    rw [Eg.int_eq]
    refine Eg.brD (fun e => ?_) (fun e => ?_)
    · walk_at "go"
      intro p1 h1
      have g1 : upd H0 p1 (.lst [.str "a"]) p1 = some (.lst [.str "a"]) := upd_same
      have s1 : Same H0 (upd H0 p1 (.lst [.str "a"])) := fun c o e => Eg.upd_old e h1
      generalize upd H0 p1 (.lst [.str "a"]) = H1 at g1 s1 ⊢
      walk_at "go"
      intro p2 h2
      have g2 : upd H1 p2 (.tup [.str "{}"]) p2 = some (.tup [.str "{}"]) := upd_same
      have s2 : Same H1 (upd H1 p2 (.tup [.str "{}"])) := fun c o e => Eg.upd_old e h2
      generalize upd H1 p2 (.tup [.str "{}"]) = H2 at g2 s2 ⊢
      walk_at "go"
      refine w_m1 ?_
      walk_at "go"
      refine ⟨⟨_, rfl⟩, ?_⟩
      walk_at "go"
      rw [show (" " : Str) = S [32] by decide +kernel]
      refine ⟨_, _, rfl, rfl, by decide, by rw [S_len, sizeLine_eq]; omega, fun p3 h3 => ?_⟩
      obtain ⟨sp1, sp2⟩ := split_facts l
      generalize Txt.split (S l) (S [32]) = ws at sp1 sp2 ⊢
      have g3 : upd H2 p3 (.lst (ws.map V.str)) p3 = some (.lst (ws.map V.str)) := upd_same
      have s3 : Same H2 (upd H2 p3 (.lst (ws.map V.str))) := fun c o e => Eg.upd_old e h3
      generalize upd H2 p3 (.lst (ws.map V.str)) = H3 at g3 s3 ⊢
      walk_at "go"
      intro p4 h4
      have g4 : upd H3 p4 (.dK []) p4 = some (.dK []) := upd_same
      have s4 : Same H3 (upd H3 p4 (.dK [])) := fun c o e => Eg.upd_old e h4
      generalize upd H3 p4 (.dK []) = H4 at g4 s4 ⊢
      walk_at "go"
      intro p5 h5
      walk_at "go"
      have s04 := ((s1.trans s2).trans s3).trans s4
      have s5 : Same H4 (upd H4 p5 (.lst [.non, .int 5, .bl true, .ref p1, .ref p2, .ref p3, .int (-1), .ref p4])) := fun c o e => Eg.upd_old e h5
      have hb4 := hb0.keep s04
      have nb : p5 ≠ b := bag_ne hb4 h5
      refine ⟨b, p5, _, rfl, hb4.keep s5, upd_same, by simp, by simp, nb, fun v H' hv hb' f => ?_⟩
      have kk : KeptB b H H' := fun c o e n => (f c n).trans (s5 _ _ (s04 _ _ (k0 _ _ e n)))
      have ks : ∀ c o, H4 c = some o → c ≠ b → H' c = some o := fun c o e n => (f c n).trans (s5 _ _ e)
      have n1 : p1 ≠ b := bag_ne hb0 h1
      have n2 : p2 ≠ b := bag_ne (hb0.keep s1) h2
      have n3 : p3 ≠ b := bag_ne (hb0.keep (s1.trans s2)) h3
      have n4 : p4 ≠ b := bag_ne (hb0.keep ((s1.trans s2).trans s3)) h4
      have j1 := ks _ _ (s4 _ _ (s3 _ _ (s2 _ _ g1))) n1
      have j2 := ks _ _ (s4 _ _ (s3 _ _ g2)) n2
      have j3 := ks _ _ (s4 _ _ g3) n3
      have j4 := ks _ _ g4 n4
      have fr : ∀ {y : Addr}, y ≠ b → H0 y = none → H y = none := fun {y} n z => by
        cases e : H y with
        | none => rfl
        | some o =>
          rw [k0 _ _ e n] at z
          cases z
      have off : ∀ {y : Addr} {X : List Addr}, H y = none → (∀ x ∈ X, ∃ o, H x = some o) → y ∉ X := fun hy hX z => by
        obtain ⟨o, e⟩ := hX _ z
        rw [hy] at e
        cases e
      have z1 := fr n1 h1
      have z2 := fr n2 (s1.free h2)
      have z3 := fr n3 ((s1.trans s2).free h3)
      have z4 := fr n4 (((s1.trans s2).trans s3).free h4)
      clear s1 s2 s3 s4 s5 s04 g1 g2 g3 g4 ks f n1 n2 n3 n4 h1 h2 h3 h4 h5 nb hb4
      simp only [List.mem_cons, List.not_mem_nil, or_false] at hv
      have fls : ∀ z : Str, ∀ x ∈ ([.str z] : List V), Rd.Flat x := fun z x hx => by
        rw [List.mem_singleton.mp hx]
        trivial
      rcases hv with rfl | rfl | rfl | rfl | rfl | rfl | rfl | rfl
      · exact q1 _ _ H' (fun X hX => .non) hb' kk
      · exact q1 _ _ H' (fun X hX => .int _ (by decide +kernel)) hb' kk
      · exact q1 _ _ H' (fun X hX => .bl true) hb' kk
      · exact q1 _ _ H' (fun X hX => .lst (xs := [.str "a"]) (off z1 hX) j1 (fls _) okn_a) hb' kk
      · exact q1 _ _ H' (fun X hX => .tup (xs := [.str "{}"]) (off z2 hX) j2 (fls _) okn_br) hb' kk
      · refine q1 _ _ H' (fun X hX => .lst (off z3 hX) j3 (fun x hx => ?_) ?_) hb' kk
        · obtain ⟨z, _, rfl⟩ := List.mem_map.mp hx
          trivial
        · have h := Rv.okListS (k := 0) (fun z : Str => PyData.str z) (fun z => z.cps.toList.length) (xs := ws) fun z hz => by
            have := Ok.str (l := z.cps.toList) fun c hx => Nat.lt_trans (hc c (sp1 z hz c hx)).2 (by decide)
            exact this
          rw [List.map_map]
          exact .of (h.mono (by decide) (by omega))
      · exact q1 _ _ H' (fun X hX => .int _ (by decide +kernel)) hb' kk
      · exact q1 _ _ H' (fun X hX => .dic (off z4 hX) j4) hb' kk
    · walk_at "go"
      intro p1 h1
      have okA : ∀ v ∈ ([.str "{", .str "}", .str "{A}", .str "{a b}", .str "{abcdefghi}", .str "{p01}", .str "{p1000000}", .str "{3}", .str "{{}}", .str "{a"] : List V), StrOk v := by
        intro v hv
        simp only [List.mem_cons, List.not_mem_nil, or_false] at hv
        rcases hv with rfl | rfl | rfl | rfl | rfl | rfl | rfl | rfl | rfl | rfl <;> exact strOk (by decide +kernel)
      have lA : ([.str "{", .str "}", .str "{A}", .str "{a b}", .str "{abcdefghi}", .str "{p01}", .str "{p1000000}", .str "{3}", .str "{{}}", .str "{a"] : List V).length = 10 := rfl
      generalize ([.str "{", .str "}", .str "{A}", .str "{a b}", .str "{abcdefghi}", .str "{p01}", .str "{p1000000}", .str "{3}", .str "{{}}", .str "{a"] : List V) = As at okA lA ⊢
      have g1 : upd H0 p1 (.lst As) p1 = some (.lst As) := upd_same
      have s1 : Same H0 (upd H0 p1 (.lst As)) := fun c o e => Eg.upd_old e h1
      generalize upd H0 p1 (.lst As) = H1 at g1 s1 ⊢
      walk_at "go"
      intro p2 h2
      have okB : ∀ v ∈ ([.str "\n", .str "{ }", .str "{}}", .str "{0}", .str "{a1b}", .str "{1}", .str "{p999999}", .str "{q}", .str "{}", .str "{01}", .str "{abcdefgh0}"] : List V), StrOk v := by
        intro v hv
        simp only [List.mem_cons, List.not_mem_nil, or_false] at hv
        rcases hv with rfl | rfl | rfl | rfl | rfl | rfl | rfl | rfl | rfl | rfl | rfl <;> exact strOk (by decide +kernel)
      have lB : ([.str "\n", .str "{ }", .str "{}}", .str "{0}", .str "{a1b}", .str "{1}", .str "{p999999}", .str "{q}", .str "{}", .str "{01}", .str "{abcdefgh0}"] : List V).length = 11 := rfl
      generalize ([.str "\n", .str "{ }", .str "{}}", .str "{0}", .str "{a1b}", .str "{1}", .str "{p999999}", .str "{q}", .str "{}", .str "{01}", .str "{abcdefgh0}"] : List V) = Bs at okB lB ⊢
      have g2 : upd H1 p2 (.lst Bs) p2 = some (.lst Bs) := upd_same
      have s2 : Same H1 (upd H1 p2 (.lst Bs)) := fun c o e => Eg.upd_old e h2
      generalize upd H1 p2 (.lst Bs) = H2 at g2 s2 ⊢
      have g21 := s2 _ _ g1
      refine Eg.c_cat g21 g2 (by rw [lA, lB]; decide) fun p3 h3 => ?_
      have g3 : upd H2 p3 (.lst (As ++ Bs)) p3 = some (.lst (As ++ Bs)) := upd_same
      have s3 : Same H2 (upd H2 p3 (.lst (As ++ Bs))) := fun c o e => Eg.upd_old e h3
      have nb3 : p3 ≠ b := bag_ne ((hb0.keep s1).keep s2) h3
      generalize upd H2 p3 (.lst (As ++ Bs)) = H3 at g3 s3 ⊢
      have s03 := (s1.trans s2).trans s3
      have hb3 := hb0.keep s03
      have k3 := k0.trans (.of s03)
      have okC : ∀ v ∈ As ++ Bs, StrOk v := fun v hv => (List.mem_append.mp hv).elim (okA v) (okB v)
      have lC : (As ++ Bs).length = 21 := by rw [List.length_append, lA, lB]
      clear s1 s2 s3 s03 g1 g2 g21 h1 h2 h3 okA okB lA lB
      generalize As ++ Bs = Cs at okC lC g3
      clear hb0 k0 f0
      have hl1 : l.length < 100000 := by omega
      walk_at "go"
      refine ⟨b, ((l.length : Nat) : Int) + 1, rfl, hb3, by omega, by omega, fun n H4 n0 n1 hb4 f4 => ?_⟩
      obtain ⟨j, rfl⟩ := Int.eq_ofNat_of_zero_le n0
      have hj : j ≤ l.length := by omega
      have g4 := (f4 _ nb3).trans g3
      walk_at "go"
      refine c_slTo hl1 rfl ?_
      walk_at "go"
      refine ⟨b, p3, Cs, rfl, hb4, g4, by rw [lC]; decide, by rw [lC]; decide, nb3, fun v H5 hv hb5 f5 => ?_⟩
      obtain ⟨x, rfl, xl, xc⟩ := okC v hv
      have tl := List.length_take_le j l
      walk_at "go"
      refine Tw.c_slS (m := l.drop j) hl1 (by rw [slice_from (by omega)]; rfl) ?_
      have dl : (l.drop j).length = l.length - j := List.length_drop
      have tl2 : (l.take j).length = j := by rw [List.length_take]; omega
      walk_at "go"
      refine q2 _ _ ?_ ?_ hb5 (k3.trans ((KeptB.fr f4).trans (.fr f5)))
      · rw [List.length_append, List.length_append, tl2, dl]
        omega
      · intro c hx
        rcases List.mem_append.mp hx with hx | hx
        · rcases List.mem_append.mp hx with hx | hx
          · exact hc c (List.mem_of_mem_take hx)
          · exact xc c hx
        · exact hc c (List.mem_of_mem_drop hx)
end
end LW
end

section
local macro_rules | `(tactic| walk_at "tx") => `(tactic| first
  | with_reducible refine Ex.w_methKS ?_
  | with_reducible refine Ex.w_callS ?_
  | with_reducible refine Ex.w_rs ?_
  | with_reducible refine Ex.w_xg ?_
  | with_reducible refine Xc.w_cmethS ?_
  | with_reducible refine Xc.c_cmS ?_
  | with_reducible refine Pz.w_star ?_
  | ((with_reducible refine' Pz.c_starL ?hs ?_); (case hs => walk_at "hp"))
  | with_reducible refine Pz.w_mkR ?_
  | ((with_reducible refine' Pz.w_mkVar ?hs ?_); (case hs => exact rfl))
  | with_reducible refine Po.w_iSeq ?_
  | ((with_reducible refine' Po.c_ixA ?hs ?hv ?_); (case hs => assumption); (case hv => walk_at "at"))
  | ((with_reducible refine' Po.c_lenA ?hs ?_); (case hs => assumption)))
namespace LW
open PySem L2 SX Tx Tl Tc Rp
/-! errors of a template with its values -/
inductive Er
  | text (i : Int)
  | value (v : V)
  | mism (a b : Nat)
  | label (k : List Nat)
  | unused (z : Str)
def erC (Z : Ad) : Er → Addr
  | .text _ => Z.c_BadText
  | .value _ => Z.c_BadValue
  | .mism _ _ => Z.c_Mismatch
  | .label _ => Z.c_NoLabel
  | .unused _ => Z.c_Unused
def erF : Er → List (Str × V)
  | .text i => [("at", .int i)]
  | .value v => [("value", v)]
  | .mism a b => [("got", .int (b : Nat)), ("wanted", .int (a : Nat))]
  | .label k => [("label", .str (S k))]
  | .unused z => [("label", .str z)]
/-- the error is raised -/
def RE (Z : Ad) (er : Er) (H : Hp) (E : XK) : Prop := ∀ (d : Addr) (H' : Hp), H d = none → H' d = some (.xd (erF er)) → Same H H' → E (.ref (erC Z er)) (some d) H'
theorem RE.mv {Z : Ad} {er : Er} {H H1 : Hp} {E : XK} (h : RE Z er H E) (s : Same H H1) : RE Z er H1 E := fun d H' hd hx s' => h d H' (s.free hd) hx (s.trans s')
def labK (ks : List (List Nat)) : List (List Nat) := ks.filter fun k => !k.isEmpty
/-- the first error behind the text's -/
def erOf (ks : List (List Nat)) (vs : List V) (ns : List Str) (tab : Str → V) : Option Er :=
  match (vs ++ ns.map tab).find? fun v => !valB v with
  | some v => some (.value v)
  | none =>
    if ¬ (ks.filter fun k => k.isEmpty).length = vs.length then some (.mism (ks.filter fun k => k.isEmpty).length vs.length)
    else match (labK ks).find? fun k => !decide (S k ∈ ns) with
      | some k => some (.label k)
      | none => match ns.find? fun z => !decide (z ∈ (labK ks).map S) with
        | some z => some (.unused z)
        | none => none
theorem erOf_val {ks : List (List Nat)} {vs : List V} {ns : List Str} {tab : Str → V} {v : V} (h : (vs ++ ns.map tab).find? (fun v => !valB v) = some v) : erOf ks vs ns tab = some (.value v) := by
  unfold erOf
  rw [h]
theorem erOf_mis {ks : List (List Nat)} {vs : List V} {ns : List Str} {tab : Str → V} (h : (vs ++ ns.map tab).find? (fun v => !valB v) = none) (n : ¬ (ks.filter fun k => k.isEmpty).length = vs.length) : erOf ks vs ns tab = some (.mism (ks.filter fun k => k.isEmpty).length vs.length) := by
  unfold erOf
  rw [h]
  exact if_pos n
theorem erOf_lab {ks : List (List Nat)} {vs : List V} {ns : List Str} {tab : Str → V} {k : List Nat} (h : (vs ++ ns.map tab).find? (fun v => !valB v) = none) (n : (ks.filter fun k => k.isEmpty).length = vs.length) (h2 : (labK ks).find? (fun k => !decide (S k ∈ ns)) = some k) : erOf ks vs ns tab = some (.label k) := by
  unfold erOf
  rw [h]
  show (if _ then _ else _) = _
  rw [if_neg (fun z => z n), h2]
theorem erOf_un {ks : List (List Nat)} {vs : List V} {ns : List Str} {tab : Str → V} {z : Str} (h : (vs ++ ns.map tab).find? (fun v => !valB v) = none) (n : (ks.filter fun k => k.isEmpty).length = vs.length) (h2 : (labK ks).find? (fun k => !decide (S k ∈ ns)) = none) (h3 : ns.find? (fun z => !decide (z ∈ (labK ks).map S)) = some z) : erOf ks vs ns tab = some (.unused z) := by
  unfold erOf
  rw [h]
  show (if _ then _ else _) = _
  rw [if_neg (fun z => z n), h2]
  show (match ns.find? _ with | some z => some (Er.unused z) | none => none) = _
  rw [h3]
theorem erOf_no {ks : List (List Nat)} {vs : List V} {ns : List Str} {tab : Str → V} (h : (vs ++ ns.map tab).find? (fun v => !valB v) = none) (n : (ks.filter fun k => k.isEmpty).length = vs.length) (h2 : (labK ks).find? (fun k => !decide (S k ∈ ns)) = none) (h3 : ns.find? (fun z => !decide (z ∈ (labK ks).map S)) = none) : erOf ks vs ns tab = none := by
  unfold erOf
  rw [h]
  show (if _ then _ else _) = _
  rw [if_neg (fun z => z n), h2]
  show (match ns.find? _ with | some z => some (Er.unused z) | none => none) = _
  rw [h3]
/-- the first one that fits -/
theorem find_at {α : Type} {p : α → Bool} {xs : List α} {j : Nat} {x : α} (hx : xs[j]? = some x) (hp : p x = true) (h : ∀ y ∈ xs.take j, p y = false) : xs.find? p = some x := by
  obtain ⟨hlt, e⟩ := List.getElem?_eq_some_iff.mp hx
  rw [← List.take_append_drop j xs, List.find?_append, List.find?_eq_none.mpr (fun y hy => by rw [h y hy]; exact Bool.false_ne_true), List.drop_eq_getElem_cons hlt, e, List.find?_cons, hp]
  rfl
theorem take_ok {α : Type} {p : α → Bool} {xs : List α} {j : Nat} {x : α} (hx : xs[j]? = some x) (hp : p x = false) (h : ∀ y ∈ xs.take j, p y = false) : ∀ y ∈ xs.take (j + 1), p y = false := by
  obtain ⟨hlt, e⟩ := List.getElem?_eq_some_iff.mp hx
  rw [List.take_succ_eq_append_getElem hlt, e]
  intro y hy
  rcases List.mem_append.mp hy with hy | hy
  · exact h y hy
  · rw [List.mem_singleton.mp hy]
    exact hp
theorem find_none {α : Type} {p : α → Bool} {xs : List α} (h : ∀ y ∈ xs.take xs.length, p y = false) : xs.find? p = none := List.find?_eq_none.mpr fun y hy => by
  rw [List.take_length] at h
  rw [h y hy]
  exact Bool.false_ne_true
def tabV (kvs : List (Key × V)) (z : Str) : V := (valV kvs (.inr z)).getD .non
/-- what is passed -/
def OkV (H : Hp) (v : V) : Prop := (IsVal v ∧ valB v = true) ∨ (NoV H v ∧ valB v = false)
theorem OkV.keep {H H' : Hp} {v : V} (h : OkV H v) (s : Same H H') : OkV H' v := h.imp id fun ⟨a, b⟩ => ⟨a.keep s, b⟩
structure Args (H : Hp) (va da : Addr) (vals : List V) (kvs : List (Key × V)) (ns : List Str) : Prop where
  va : Po.SeqAt H va vals
  da : H da = some (.dK kvs)
  nm : ∃ zs : List Str, kvs.map (·.1) = zs.map (fun z => (.inr z : Key)) ∧ ns.Perm zs
  srt : PyProof.Rows.sortedS ns = true
  few : kvs.length < 64
  vl : vals.length < 1000
  okv : ∀ v ∈ vals, OkV H v
  okk : ∀ z ∈ ns, ∃ v, valV kvs (.inr z) = some v ∧ OkV H v
theorem Args.keep {H H' : Hp} {va da : Addr} {vals : List V} {kvs : List (Key × V)} {ns : List Str} (h : Args H va da vals kvs ns) (s : Same H H') : Args H' va da vals kvs ns :=
  ⟨h.va.keep fun o e => s _ _ e, s _ _ h.da, h.nm, h.srt, h.few, h.vl, fun v hv => (h.okv v hv).keep s, fun z hz => let ⟨v, e, o⟩ := h.okk z hz; ⟨v, e, o.keep s⟩⟩
def sp_valuedB (Z : Ad) : Sp := fun vs H _ E => ∃ (x : V) (va da : Addr), vs = [x, .ref va, .ref da] ∧ ((NoS H x ∧ RE Z (.text (-1)) H E) ∨ ∃ (ts : List Tk) (tl : List Nat), x = .str (S (flat ts ++ tl)) ∧ (flat ts ++ tl).length < 40000 ∧ (∀ t ∈ ts, RdOk "template" t) ∧
  ((Bad "template" tl ∧ RE Z (.text (((flat ts).length : Nat) : Int)) H E) ∨ (tl = [] ∧ ∃ (vals : List V) (kvs : List (Key × V)) (ns : List Str) (er : Er), Args H va da vals kvs ns ∧ erOf (Tc.holes ts) vals ns (tabV kvs) = some er ∧ RE Z er H E)))
def isLab : Cl → Bool
  | .inl _ => false
  | .inr k => !decide (k = .inr (S []))
theorem filt_lab : ∀ L : List (Addr × Cl), (L.filter fun q => isLab q.2).map (fun q => keyV q.2) = ((keys (L.map (·.2))).filter fun k => !decide (k = .inr (S []))).map kV
  | [] => rfl
  | (a, .inl l) :: r => filt_lab r
  | (a, .inr k) :: r => by
    have ih := filt_lab r
    show (List.filter _ ((a, Sum.inr k) :: r)).map _ = ((k :: keys (r.map (·.2))).filter _).map kV
    rw [List.filter_cons, List.filter_cons]
    show (if (!decide (k = .inr (S []))) = true then _ else _ : List (Addr × Cl)).map _ = (if (!decide (k = .inr (S []))) = true then _ else _ : List Key).map kV
    split
    · rw [List.map_cons, List.map_cons, ih]
      rfl
    · exact ih
theorem key_of_val : ∀ {kvs : List (Key × V)} {k : Key} {v : V}, valV kvs k = some v → k ∈ kvs.map (·.1)
  | [], _, _, h => nomatch h
  | p :: r, k, v, h => by
    by_cases e : p.1 = k
    · exact List.mem_map.mpr ⟨p, List.mem_cons_self, e⟩
    · rw [valV_neg e] at h
      exact .tail _ (key_of_val h)
theorem lab_keys (ks : List (List Nat)) : ((ks.map fun k => (.inr (S k) : Key)).filter fun k => !decide (k = .inr (S []))) = (labK ks).map fun k => (.inr (S k) : Key) := by
  unfold labK
  induction ks with
  | nil => rfl
  | cons k r ih =>
    rw [List.map_cons, List.filter_cons, List.filter_cons, ih]
    cases k with
    | nil => rw [decide_eq_true rfl]; rfl
    | cons c k =>
      rw [decide_eq_false (show ¬ (.inr (S (c :: k)) : Key) = .inr (S []) from fun z => nomatch S_inj (Sum.inr.inj z))]
      rfl
theorem places_eq (ks : List (List Nat)) : (ks.length : Int) - ((labK ks).length : Nat) = ((ks.filter fun k => k.isEmpty).length : Nat) := by
  unfold labK
  have : ks.length = (ks.filter fun k => k.isEmpty).length + (ks.filter fun k => !k.isEmpty).length := by
    induction ks with
    | nil => rfl
    | cons k r ih =>
      rw [List.length_cons, ih, List.filter_cons, List.filter_cons]
      cases k with
      | nil =>
        simp only [List.isEmpty_nil, if_true, Bool.not_true, Bool.false_eq_true, if_false, List.length_cons]
        omega
      | cons c k =>
        simp only [List.isEmpty_cons, Bool.not_false, if_true, Bool.false_eq_true, if_false, List.length_cons]
        omega
  omega
section
variable {P : Program} {w : World} {K : PySem.W.Frag} {mg : Str → Option Value} {base : Heap} {Z : Ad}
set_option maxHeartbeats 8000000 in
theorem ok_valuedB (T : Txt K mg Z) : FnOk P w K mg base (L2.CX P w) 5 Z.a_valued Z.d_valued ["text", "values", "named"] (sp_valuedB Z) := by
  refine T.F_valued.okX sc_valued (fun vs H Q E h => ?_) (fun cdv A outer s H vs Q E hr h => ?_)
  · obtain ⟨x, va, da, rfl, _⟩ := h
    rfl
  · obtain ⟨x, va, da, rfl, h⟩ := h
    have nd := sc_valued.nd
    have hu := hu_of hr
    refine ⟨_, (pss_cons (ps_set (i := 3) nd rfl (Or.inl rfl) (pe_call (ok_read_partsX T) (hr.mono (by decide)) (by rfl) T.g_read_parts T.F_read_parts.kp T.b_read_parts .nil (passes_call (takes_of rfl rfl rfl rfl) (fun _ _ _ _ h => h)) (pa_cons (pv 0) (pa_cons pe_str pa_nil))))
  (pss_cons (ps_for (passes_of rfl) rfl (Po.pi_seq (pv 1)) (pg_name (i := 4) nd rfl (Or.inl rfl))
  (pss_one (ps_expr (pe_call (ok_check_valueX T) (hr.mono (by decide)) (by rfl) T.g_check_value T.F_check_value.kp T.b_check_value .nil (passes_call (takes_of rfl rfl rfl rfl) (fun _ _ _ _ h => h)) (pa_cons (pv 4) pa_nil)))))
  (pss_cons (ps_for (passes_of rfl) rfl (pi_list (pe_callB cr_sortedS (by rfl) T.u_sorted (by decide +kernel) (pa_cons (pe_callTy (Mk.cr_listE rfl) (by rfl) T.u_list (by decide +kernel) (pa_cons (pv 2) pa_nil)) pa_nil))) (pg_name (i := 5) nd rfl (Or.inl rfl))
  (pss_one (ps_expr (pe_call (ok_check_valueX T) (hr.mono (by decide)) (by rfl) T.g_check_value T.F_check_value.kp T.b_check_value .nil (passes_call (takes_of rfl rfl rfl rfl) (fun _ _ _ _ h => h)) (pa_cons (pe_dget hu (pv 2) (pv 5) (fun _ _ => rfl)) pa_nil)))))
  (pss_cons (ps_setLc (i := 7) (own := [("part", 6)]) rfl nd rfl rfl (sw_true rfl rfl rfl (by decide +kernel)) (pi_list (pv 3)) (blkOk_by (N := N_valued) (sc := defScope s_valued) (by decide +kernel)) (fun _ _ _ _ _ => (pg_name (i := 6) nd rfl (Or.inl rfl))) (fun _ _ _ _ _ => (Eg.ptsE (pts_one (PW.pt (pw_and (pt_cmpR op_eq (pe_ix ix_tup (pv 6) pe_int (fun _ _ => rfl)) pe_str (nomark _)) (pw_and1 (pt_cmpR op_ne (pe_ix ix_tup (pv 6) pe_int (fun _ _ => rfl)) pe_str (nomark _)))))) (by walk_at "blk"))) (fun _ _ _ _ _ => (Eg.peE (pe_ix ix_tup (pv 6) pe_int (fun _ _ => rfl)) (by walk_at "blk"))))
  (pss_cons (ps_set (i := 8) nd rfl (Or.inl rfl) (pe_op op_sub (pe_callB Eg.cr_len (by rfl) T.u_len (by decide +kernel) (pa_cons (pe_lc (own := [("part", 6)]) rfl nd (pi_list (pv 3)) (blkOk_by (N := N_valued) (sc := defScope s_valued) (by decide +kernel)) (fun _ _ _ _ _ => (pg_name (i := 6) nd rfl (Or.inl rfl))) (fun _ _ _ _ _ => (Eg.ptsE (pts_one (pt_cmpR op_eq (pe_ix ix_tup (pv 6) pe_int (fun _ _ => rfl)) pe_str (nomark _))) (by walk_at "blk"))) (fun _ _ _ _ _ => (Eg.peE (pv 6) (by walk_at "blk")))) pa_nil)) (pe_callB Eg.cr_len (by rfl) T.u_len (by decide +kernel) (pa_cons (pv 7) pa_nil))))
  (pss_cons (ps_if (pt_cmpR op_ne (pv 8) (pe_callB Eg.cr_len (by rfl) T.u_len (by decide +kernel) (pa_cons (pv 1) pa_nil)) (nomark _))
  (pss_one (Ex.ps_rs rfl (takes_of rfl rfl rfl rfl) T.x_Mismatch.oex T.x_Mismatch.ini T.x_Mismatch.fn (ok_Mismatch_init T) (hr.mono (by decide)) T.b_Mismatch_init pass0 (by rfl) T.g_Mismatch (pa_cons (pv 8) (pa_cons (pe_callB Eg.cr_len (by rfl) T.u_len (by decide +kernel) (pa_cons (pv 1) pa_nil)) pa_nil))))
  pss_nil)
  (pss_cons (ps_for (passes_of rfl) rfl (pi_list (pv 7)) (pg_name (i := 9) nd rfl (Or.inl rfl))
  (pss_one (ps_if (pt_cmp (pc_dnotin hu (pv 9) (pv 2)))
  (pss_one (Ex.ps_rs rfl (takes_of rfl rfl rfl rfl) T.x_NoLabel.oex T.x_NoLabel.ini T.x_NoLabel.fn (ok_NoLabel_init T) (hr.mono (by decide)) T.b_NoLabel_init pass0 (by rfl) T.g_NoLabel (pa_cons (pv 9) pa_nil)))
  pss_nil)))
  (pss_cons (ps_for (passes_of rfl) rfl (pi_list (pe_callB cr_sortedS (by rfl) T.u_sorted (by decide +kernel) (pa_cons (pe_callTy (Mk.cr_listE rfl) (by rfl) T.u_list (by decide +kernel) (pa_cons (pv 2) pa_nil)) pa_nil))) (pg_name (i := 5) nd rfl (Or.inl rfl))
  (pss_one (ps_if (pt_cmpR op_notIn_seq (pv 5) (pv 7) (by rfl))
  (pss_one (Ex.ps_rs rfl (takes_of rfl rfl rfl rfl) T.x_Unused.oex T.x_Unused.ini T.x_Unused.fn (ok_Unused_init T) (hr.mono (by decide)) T.b_Unused_init pass0 (by rfl) T.g_Unused (pa_cons (pv 5) pa_nil)))
  pss_nil)))
  (pss_cons (ps_set (i := 10) nd rfl (Or.inl rfl) (pe_lst pa_nil))
  (pss_cons (ps_set (i := 11) nd rfl (Or.inl rfl) pe_int)
  (pss_cons (ps_for (passes_of rfl) rfl (pi_list (pv 3)) (pg_name (i := 6) nd rfl (Or.inl rfl))
  (pss_one (ps_if (pt_cmpR op_eq (pe_ix ix_tup (pv 6) pe_int (fun _ _ => rfl)) pe_str (nomark _))
  (pss_one (ps_expr (pe_bm PySem.F.plainAttrs_list PySem.F.slot_list_append PySem.F.type_list_append mt_append (pv 10) (pa_cons (pv 6) pa_nil))))
  (pss_one (ps_if (pt_cmpR op_ne (pe_ix ix_tup (pv 6) pe_int (fun _ _ => rfl)) pe_str (nomark _))
  (pss_one (ps_expr (pe_bm PySem.F.plainAttrs_list PySem.F.slot_list_append PySem.F.type_list_append mt_append (pv 10) (pa_cons (pe_tup (pa_cons pe_str (pa_cons (pe_ix ix_tup (pv 6) pe_int (fun _ _ => rfl)) (pa_cons (pe_dget hu (pv 2) (pe_ix ix_tup (pv 6) pe_int (fun _ _ => rfl)) (fun _ _ => rfl)) pa_nil)))) pa_nil))))
  (pss_cons (ps_expr (pe_bm PySem.F.plainAttrs_list PySem.F.slot_list_append PySem.F.type_list_append mt_append (pv 10) (pa_cons (pe_tup (pa_cons pe_str (pa_cons pe_str (pa_cons (pe_ix Po.ix_seq (pv 1) (pv 11) (fun _ _ => rfl)) pa_nil)))) pa_nil)))
  (pss_one (ps_set (i := 11) nd rfl (Or.inl rfl) (pe_op op_add (pv 11) pe_int)))))))))
  (pss_one (ps_ret (pv 10)))))))))))))), ?_⟩
    refine Eg.w_sig (σ := [some x, some (.ref va), some (.ref da), none, none, none, none, none, none, none, none, none]) rfl ?_
    walk_at "go"
    rcases h with ⟨no, q⟩ | ⟨ts, tl, rfl, hl, hok, h⟩
    · exact ⟨x, _, rfl, .inl ⟨no, q⟩⟩
    refine ⟨_, _, rfl, .inr ⟨ts, tl, rfl, hl, hok, ?_⟩⟩
    rcases h with ⟨bad, q⟩ | ⟨rfl, vals, kvs, ns, er, ar, her, q⟩
    · exact .inr ⟨bad, q⟩
    refine .inl ⟨rfl, fun pa ys H1 hpa h1p py s1 => ?_⟩
    rw [read_map] at py
    have a1 := ar.keep s1
    have q1 := q.mv s1
    clear ar q hpa
    have vl := a1.vl
    walk_at "go"
    refine Po.for_seq a1.va (fun j σ' H' => ∃ v4 : Option V, σ' = [some (.str (S (flat ts ++ []))), some (.ref va), some (.ref da), some (.ref pa), v4, none, none, none, none, none, none, none] ∧ H1 = H' ∧ ∀ y ∈ vals.take j, (!valB y) = false) ⟨none, rfl, rfl, fun _ z => nomatch z⟩ ?_ ?_ ?_
    · rintro j _ _ ⟨v4, rfl, rfl, _⟩ o e
      exact e
    · rintro j x _ _ hx ⟨v4, rfl, rfl, ok⟩
      have ov := a1.okv x (List.mem_of_getElem? hx)
      walk_at "go"
      refine ⟨x, rfl, ?_⟩
      rcases ov with ⟨hv, hb⟩ | ⟨hv, hb⟩
      · refine .inl ⟨hv, ?_⟩
        walk_at "go"
        exact ⟨_, rfl, rfl, take_ok hx (by rw [hb]; rfl) ok⟩
      · refine .inr ⟨hv, fun d H' hd hx' s' => ?_⟩
        have e := erOf_val (ks := Tc.holes ts) (vs := vals) (ns := ns) (tab := tabV kvs) (v := x) (by
          rw [List.find?_append, find_at hx (by rw [hb]; rfl) ok]
          rfl)
        rw [e] at her
        cases her
        exact q1 d H' hd hx' s'
    rintro _ _ ⟨v4, rfl, rfl, ok1⟩
    obtain ⟨zs, hzs, pm0⟩ := a1.nm
    have kz : (kvs.map fun kv => kV kv.1) = zs.map V.str := by
      have := congrArg (List.map kV) hzs
      rw [List.map_map, List.map_map] at this
      exact this
    have zl : zs.length = kvs.length := by
      have := congrArg List.length hzs
      rw [List.length_map, List.length_map] at this
      exact this.symm
    have fewk := a1.few
    have h1d := a1.da
    walk_at "go"
    refine Mk.c_listD h1d fun L hL => ?_
    rw [kz]
    have h2L : upd H1 L (.lst (zs.map V.str)) L = some (.lst (zs.map V.str)) := upd_same
    have s2 : Same H1 (upd H1 L (.lst (zs.map V.str))) := fun c o e => Eg.upd_old e hL
    generalize upd H1 L (.lst (zs.map V.str)) = H2 at h2L s2 ⊢
    walk_at "go"
    refine ⟨L, zs, rfl, SqL.of h2L, by omega, fun ms M pm srt hM => ?_⟩
    obtain rfl : ms = ns := Kq.sortedS_uniq (pm.trans pm0.symm) srt a1.srt
    have h3M : upd H2 M (.lst (ms.map V.str)) M = some (.lst (ms.map V.str)) := upd_same
    have s3 : Same H2 (upd H2 M (.lst (ms.map V.str))) := fun c o e => Eg.upd_old e hM
    generalize upd H2 M (.lst (ms.map V.str)) = H3 at h3M s3 ⊢
    have s13 := s2.trans s3
    have a3 := a1.keep s13
    have q3 := q1.mv s13
    have h3p := s13 _ _ h1p
    have h3d := a3.da
    walk_at "go"
    refine for_list (xs := ms.map V.str) (fun j σ' H' => ∃ v5 : Option V, σ' = [some (.str (S (flat ts ++ []))), some (.ref va), some (.ref da), some (.ref pa), v4, v5, none, none, none, none, none, none] ∧ H3 = H' ∧ ∀ y ∈ (ms.map (tabV kvs)).take j, (!valB y) = false) ⟨none, rfl, rfl, fun _ z => nomatch z⟩ ?_ ?_ ?_
    · rintro j _ _ _ ⟨v5, rfl, rfl, _⟩
      exact SqL.of h3M
    · rintro j x _ _ hx ⟨v5, rfl, rfl, ok⟩
      rw [List.getElem?_map] at hx
      obtain ⟨z, hz, rfl⟩ := Option.map_eq_some_iff.mp hx
      obtain ⟨v, hv, ov⟩ := a3.okk z (List.mem_of_getElem? hz)
      have dg := Tw.dgetK (k := .inr z) (.inl h3d)
      rw [hv] at dg
      have htv : (ms.map (tabV kvs))[j]? = some v := by
        rw [List.getElem?_map, hz]
        show some (tabV kvs z) = _
        unfold tabV
        rw [hv]
        rfl
      walk_at "go"
      refine ⟨da, v, rfl, dg, ?_⟩
      walk_at "go"
      refine ⟨v, rfl, ?_⟩
      rcases ov with ⟨hv', hb⟩ | ⟨hv', hb⟩
      · refine .inl ⟨hv', ?_⟩
        walk_at "go"
        exact ⟨_, rfl, rfl, take_ok htv (by rw [hb]; rfl) ok⟩
      · refine .inr ⟨hv', fun d H' hd hx' s' => ?_⟩
        have e := erOf_val (ks := Tc.holes ts) (vs := vals) (ns := ms) (tab := tabV kvs) (v := v) (by
          rw [List.find?_append, find_none ok1]
          exact find_at htv (by rw [hb]; rfl) ok)
        rw [e] at her
        cases her
        exact q3 d H' hd hx' s'
    rintro _ _ ⟨v5, rfl, rfl, ok2⟩
    have nov : (vals ++ ms.map (tabV kvs)).find? (fun v => !valB v) = none := by
      rw [List.find?_append, find_none ok1]
      exact find_none (xs := ms.map (tabV kvs)) (by rw [List.length_map] at ok2 ⊢; exact ok2)
    clear ok1 ok2 h2L hL s2 s3 hM h1d
    obtain ⟨L0, hL1, hL2, hL3⟩ := pcs_pairs py
    have L0l : L0.length = (read ts).length := by rw [← hL2, List.length_map]
    have rl := read_len ts
    have fl := flat_len ts
    rw [List.append_nil] at hl
    rw [hL1] at h3p
    have h3t : ∀ q ∈ L0, H3 q.1 = some (.tup (pc q.2).vs) := fun q hq => s13 _ _ (hL3 q hq)
    have kq : ∀ q ∈ L0, ∀ k, q.2 = .inr k → ∃ l : List Nat, k = .inr (S l) := fun q hq k e => by
      have : Sum.inr k ∈ read ts := by
        rw [← hL2, ← e]
        exact List.mem_map.mpr ⟨q, hq, rfl⟩
      have := keys_sub this
      rw [keys_read] at this
      obtain ⟨l, _, e⟩ := List.mem_map.mp this
      exact ⟨l, e.symm⟩
    walk_at "gw"
    refine fm_list (xs := L0) (G := fun q => .ref q.1) (F := fun q => keyV q.2) (P := fun q => isLab q.2) h3p (by omega) (fun R h => ?_) (fun H' z R s' hz h => ?_) (fun H' z R s' hz hp h => ?_) (fun LA H4 hLA s4 h4 => ?_)
    · walk_at "go"
      exact h
    · have kqz := kq z hz
      obtain ⟨t', c⟩ := z
      have ht := s' _ _ (h3t _ hz)
      cases c with
      | inl l =>
        have ht : H' t' = some (.tup [.str "say", .str (S l)]) := ht
        walk_at "gw"
        rw [d_sh']
        walk_at "gw"
        exact h _ (Same.refl _)
      | inr k =>
        obtain ⟨k, rfl⟩ := kqz k rfl
        have ht : H' t' = some (.tup [.str "hole", .str (S k)]) := ht
        walk_at "gw"
        rw [decide_eq_true (rfl : V.str "hole" = V.str "hole")]
        walk_at "gw"
        rw [str_emp]
        have e : isLab (.inr (.inr (S k))) = !decide (k = []) := by
          show (!decide ((.inr (S k) : Key) = .inr (S []))) = _
          congr 1
          exact decide_eq_decide.mpr ⟨fun z => S_inj (Sum.inr.inj z), fun z => by rw [z]⟩
        have h := h _ (Same.refl _)
        rw [show isLab (t', Sum.inr (Sum.inr (S k))).2 = !decide (k = []) from e] at h
        exact h
    · have kqz := kq z hz
      obtain ⟨t', c⟩ := z
      have ht := s' _ _ (h3t _ hz)
      cases c with
      | inl l => cases hp
      | inr k =>
        obtain ⟨k, rfl⟩ := kqz k rfl
        have ht : H' t' = some (.tup [.str "hole", .str (S k)]) := ht
        walk_at "go"
        exact h _ (Same.refl _)
    have labs : (L0.filter fun q => isLab q.2).map (fun q => keyV q.2) = ((labK (Tc.holes ts)).map fun k => (.inr (S k) : Key)).map kV := by
      rw [filt_lab, hL2, keys_read, lab_keys]
    rw [labs] at h4
    have h4p := s4 _ _ h3p
    have h4t : ∀ q ∈ L0, H4 q.1 = some (.tup (pc q.2).vs) := fun q hq => s4 _ _ (h3t q hq)
    have a4 := a3.keep s4
    have q4 := q3.mv s4
    clear h3p h3t a3 q3 h3M h3d s4 py h1p hL1 hL3 a1 q1
    walk_at "gw"
    refine fm_list (xs := L0) (G := fun q => .ref q.1) (F := fun q => .ref q.1) (P := fun q => isHole q.2) h4p (by omega) (fun R h => ?_) (fun H' z R s' hz h => ?_) (fun H' z R s' hz hp h => ?_) (fun LB H5 hLB s5 h5 => ?_)
    · walk_at "go"
      exact h
    · obtain ⟨t', c⟩ := z
      have ht := s' _ _ (h4t _ hz)
      cases c with
      | inl l =>
        have ht : H' t' = some (.tup [.str "say", .str (S l)]) := ht
        walk_at "go"
        rw [d_sh']
        exact h _ (Same.refl _)
      | inr k =>
        have ht : H' t' = some (.tup [.str "hole", kV k]) := ht
        walk_at "go"
        rw [decide_eq_true (rfl : V.str "hole" = V.str "hole")]
        exact h _ (Same.refl _)
    · walk_at "go"
      exact h _ (Same.refl _)
    have h5A := s5 _ _ h4
    have a5 := a4.keep s5
    have q5 := q4.mv s5
    have h5v := a5.va
    clear a4 q4 h4p h4t h4 s5
    walk_at "gw"
    have cnt : (((((L0.filter fun q => isHole q.2).map fun q => V.ref q.1).length : Nat) : Int) - (((((labK (Tc.holes ts)).map fun k => (.inr (S k) : Key)).map kV).length : Nat))) = ((((Tc.holes ts).filter fun k => k.isEmpty).length : Nat) : Int) := by
      have e1 : (L0.filter fun q => isHole q.2).length = (Tc.holes ts).length := by
        have := congrArg List.length (filt_keys L0)
        rw [List.length_map, List.length_map, hL2, keys_read, List.length_map] at this
        exact this
      rw [List.length_map, List.length_map, List.length_map, e1]
      exact places_eq _
    rw [cnt]
    by_cases mis : ((Tc.holes ts).filter fun k => k.isEmpty).length = vals.length
    case' neg =>
      rw [decide_eq_false (show ¬ V.int ((((Tc.holes ts).filter fun k => k.isEmpty).length : Nat) : Int) = V.int ((vals.length : Nat) : Int) from fun z => mis (by have := V.int.inj z; omega))]
      rw [erOf_mis nov mis] at her
      cases her
      walk_at "go"
      exact Ex.c_mk2 fun d hd => q5 d _ hd upd_same fun c o e => Eg.upd_old e hd
    rw [decide_eq_true (show V.int ((((Tc.holes ts).filter fun k => k.isEmpty).length : Nat) : Int) = V.int ((vals.length : Nat) : Int) by rw [mis])]
    have h5d := a5.da
    walk_at "go"
    refine for_list (xs := ((labK (Tc.holes ts)).map fun k => (.inr (S k) : Key)).map kV) (fun j σ' H' => ∃ v9 : Option V, σ' = [some (.str (S (flat ts ++ []))), some (.ref va), some (.ref da), some (.ref pa), v4, v5, none, some (.ref LA), some (.int ((((Tc.holes ts).filter fun k => k.isEmpty).length : Nat) : Int)), v9, none, none] ∧ H5 = H' ∧ ∀ y ∈ (labK (Tc.holes ts)).take j, (!decide (S y ∈ ms)) = false) ⟨none, rfl, rfl, fun _ z => nomatch z⟩ ?_ ?_ ?_
    · rintro j _ _ _ ⟨v9, rfl, rfl, _⟩
      exact SqL.of h5A
    · rintro j x _ _ hx ⟨v9, rfl, rfl, ok⟩
      rw [List.getElem?_map, List.getElem?_map] at hx
      obtain ⟨k', hk', rfl⟩ := Option.map_eq_some_iff.mp hx
      obtain ⟨k, hk, rfl⟩ := Option.map_eq_some_iff.mp hk'
      have dg := Tw.dgetK (k := .inr (S k)) (.inl h5d)
      have inn : (valV kvs (.inr (S k))).isNone = !decide (S k ∈ ms) := by
        by_cases hm : S k ∈ ms
        · obtain ⟨v, hv, _⟩ := a5.okk _ hm
          rw [hv, decide_eq_true hm]
          rfl
        · rw [decide_eq_false hm]
          cases e : valV kvs (.inr (S k)) with
          | none => rfl
          | some v =>
            have h2 : (.inr (S k) : Key) ∈ kvs.map (·.1) := key_of_val e
            rw [hzs] at h2
            obtain ⟨z, hz, e2⟩ := List.mem_map.mp h2
            exact absurd (pm.symm.mem_iff.mp (by rw [← Sum.inr.inj e2]; exact hz)) hm
      walk_at "go"
      refine ⟨da, _, rfl, dg, ?_⟩
      by_cases hm : S k ∈ ms
      · rw [decide_eq_true hm] at inn
        obtain ⟨v, hv, _⟩ := a5.okk _ hm
        rw [hv]
        walk_at "go"
        refine Eg.brF rfl ?_
        walk_at "go"
        exact ⟨_, rfl, rfl, take_ok hk (by rw [decide_eq_true hm]; rfl) ok⟩
      · rw [decide_eq_false hm] at inn
        have hv : valV kvs (.inr (S k)) = none := by
          cases e : valV kvs (.inr (S k)) with
          | none => rfl
          | some v =>
            rw [e] at inn
            cases inn
        rw [hv]
        rw [erOf_lab nov mis (find_at hk (by rw [decide_eq_false hm]; rfl) ok)] at her
        cases her
        walk_at "go"
        refine Eg.brT rfl ?_
        walk_at "go"
        exact Ex.c_mk1 fun d hd => q5 d _ hd upd_same fun c o e => Eg.upd_old e hd
    rintro _ _ ⟨v9, rfl, rfl, ok3⟩
    have nol : (labK (Tc.holes ts)).find? (fun k => !decide (S k ∈ ms)) = none := find_none (by rw [List.length_map, List.length_map] at ok3; exact ok3)
    clear ok3
    walk_at "go"
    refine Mk.c_listD h5d fun L2 hL2' => ?_
    rw [kz]
    have h6L : upd H5 L2 (.lst (zs.map V.str)) L2 = some (.lst (zs.map V.str)) := upd_same
    have s6 : Same H5 (upd H5 L2 (.lst (zs.map V.str))) := fun c o e => Eg.upd_old e hL2'
    generalize upd H5 L2 (.lst (zs.map V.str)) = H6 at h6L s6 ⊢
    walk_at "go"
    refine ⟨L2, zs, rfl, SqL.of h6L, by omega, fun ms2 M2 pm2 srt2 hM2 => ?_⟩
    obtain rfl : ms2 = ms := Kq.sortedS_uniq (pm2.trans pm.symm) srt2 srt
    have h7M : upd H6 M2 (.lst (ms2.map V.str)) M2 = some (.lst (ms2.map V.str)) := upd_same
    have s7 : Same H6 (upd H6 M2 (.lst (ms2.map V.str))) := fun c o e => Eg.upd_old e hM2
    generalize upd H6 M2 (.lst (ms2.map V.str)) = H7 at h7M s7 ⊢
    have s57 := s6.trans s7
    have h7A := s57 _ _ h5A
    have q7 := q5.mv s57
    clear h6L h5A h5v h5d hL2' hM2 s6 s7
    have ml : ms2.length < 64 := by
      rw [pm2.length_eq]
      omega
    have l7A : H7 LA = some (.lst (((labK (Tc.holes ts)).map fun k => (.inr (S k) : Key)).map kV)) := h7A
    walk_at "go"
    refine for_list (xs := ms2.map V.str) (fun j σ' H' => ∃ v5 : Option V, σ' = [some (.str (S (flat ts ++ []))), some (.ref va), some (.ref da), some (.ref pa), v4, v5, none, some (.ref LA), some (.int ((((Tc.holes ts).filter fun k => k.isEmpty).length : Nat) : Int)), v9, none, none] ∧ H7 = H' ∧ ∀ y ∈ ms2.take j, (!decide (y ∈ (labK (Tc.holes ts)).map S)) = false) ⟨_, rfl, rfl, fun _ z => nomatch z⟩ ?_ ?_ ?_
    · rintro j _ _ _ ⟨v5, rfl, rfl, _⟩
      exact SqL.of h7M
    · rintro j x _ _ hx ⟨v5, rfl, rfl, ok⟩
      rw [List.getElem?_map] at hx
      obtain ⟨z, hz, rfl⟩ := Option.map_eq_some_iff.mp hx
      have inz : decide ((.inr z : Key) ∈ (labK (Tc.holes ts)).map fun k => (.inr (S k) : Key)) = decide (z ∈ (labK (Tc.holes ts)).map S) := decide_eq_decide.mpr ⟨fun h => by
        obtain ⟨k, hk, e⟩ := List.mem_map.mp h
        exact List.mem_map.mpr ⟨k, hk, Sum.inr.inj e⟩, fun h => by
        obtain ⟨k, hk, e⟩ := List.mem_map.mp h
        exact List.mem_map.mpr ⟨k, hk, by rw [e]⟩⟩
      walk_at "go"
      refine Tw.c_notIn (k := .inr z) l7A ?_
      rw [inz]
      by_cases hm : z ∈ (labK (Tc.holes ts)).map S
      · rw [decide_eq_true hm]
        walk_at "go"
        exact ⟨_, rfl, rfl, take_ok hz (by rw [decide_eq_true hm]; rfl) ok⟩
      · rw [decide_eq_false hm]
        rw [erOf_un nov mis nol (find_at hz (by rw [decide_eq_false hm]; rfl) ok)] at her
        cases her
        walk_at "go"
        exact Ex.c_mk1 fun d hd => q7 d _ hd upd_same fun c o e => Eg.upd_old e hd
    rintro _ _ ⟨v5, rfl, rfl, ok4⟩
    rw [erOf_no nov mis nol (find_none (by rw [List.length_map] at ok4; exact ok4))] at her
    cases her
end
end LW
end

section
local macro_rules | `(tactic| walk_at "tx") => `(tactic| first
  | with_reducible refine Ex.w_methKS ?_
  | with_reducible refine Ex.w_callS ?_
  | with_reducible refine Ex.w_rs ?_
  | with_reducible refine Ex.w_xg ?_
  | with_reducible refine Xc.w_cmethS ?_
  | with_reducible refine Xh.w_callH ?_
  | with_reducible refine Xc.c_cmS ?_
  | with_reducible refine Pz.w_star ?_
  | ((with_reducible refine' Pz.c_starL ?hs ?_); (case hs => walk_at "hp"))
  | with_reducible refine Pz.w_mkR ?_
  | ((with_reducible refine' Pz.w_mkVar ?hs ?_); (case hs => exact rfl))
  | with_reducible refine Po.w_iSeq ?_
  | ((with_reducible refine' Po.c_ixA ?hs ?hv ?_); (case hs => assumption); (case hv => walk_at "at"))
  | ((with_reducible refine' Po.c_lenA ?hs ?_); (case hs => assumption)))
namespace LW
open PySem L2 SX Tx Tl Tc Rp
/-! valued, Piece.of with errors; what the law tells of them -/
/-- the parts of a template with its values -/
def mkP (tab : Str → V) : List Tk → List V → List Pp
  | [], _ => []
  | .ch c :: r, vs => .inl [c] :: mkP tab r vs
  | .ho [] :: r, [] => .inr ([], .non) :: mkP tab r []
  | .ho [] :: r, v :: vs => .inr ([], v) :: mkP tab r vs
  | .ho (c :: k) :: r, vs => .inr (c :: k, tab (S (c :: k))) :: mkP tab r vs
theorem erOf_inv {ks : List (List Nat)} {vs : List V} {ns : List Str} {tab : Str → V} (h : erOf ks vs ns tab = none) : (∀ v ∈ vs ++ ns.map tab, valB v = true) ∧ (ks.filter fun k => k.isEmpty).length = vs.length ∧ (∀ k ∈ labK ks, S k ∈ ns) ∧ ∀ z ∈ ns, z ∈ (labK ks).map S := by
  cases e1 : (vs ++ ns.map tab).find? (fun v => !valB v) with
  | some v =>
    rw [erOf_val e1] at h
    cases h
  | none =>
    by_cases e2 : (ks.filter fun k => k.isEmpty).length = vs.length
    case neg =>
      rw [erOf_mis e1 e2] at h
      cases h
    cases e3 : (labK ks).find? (fun k => !decide (S k ∈ ns)) with
    | some k =>
      rw [erOf_lab e1 e2 e3] at h
      cases h
    | none =>
      cases e4 : ns.find? (fun z => !decide (z ∈ (labK ks).map S)) with
      | some z =>
        rw [erOf_un e1 e2 e3 e4] at h
        cases h
      | none =>
        refine ⟨fun v hv => by simpa using List.find?_eq_none.mp e1 v hv, e2, fun k hk => by simpa using List.find?_eq_none.mp e3 k hk, fun z hz => ?_⟩
        have := List.find?_eq_none.mp e4 z hz
        rw [Bool.not_eq_true', decide_eq_false_iff_not, Classical.not_not] at this
        exact this
theorem lab14 {k : List Nat} (h : labelB k = true) : k.length ≤ 14 := by
  have hc := stem_cut k
  have hl := congrArg List.length hc
  rw [List.length_append] at hl
  unfold labelB at h
  rw [Bool.and_eq_true] at h
  have hw := h.1
  unfold wordB at hw
  simp only [Bool.and_eq_true, decide_eq_true_eq] at hw
  have h2 := h.2
  rw [Bool.or_eq_true] at h2
  rcases h2 with h2 | h2
  · have e := of_decide_eq_true h2
    have := congrArg List.length e
    omega
  · unfold countB at h2
    simp only [Bool.and_eq_true, decide_eq_true_eq] at h2
    omega
theorem key_lab {c : Nat} {k : List Nat} (h : keyB "template" (c :: k) = true) : labelB (c :: k) = true := by
  unfold keyB at h
  rw [decide_eq_false (show ¬ ("template" : Str) = "order" by decide +kernel), if_neg Bool.false_ne_true, decide_eq_false (show ¬ ("template" : Str) = "number" by decide +kernel), if_neg Bool.false_ne_true] at h
  rw [decide_eq_false (show ¬ (c :: k) = [] from fun z => nomatch z), Bool.and_false, Bool.or_false] at h
  exact h
/-- a case: its text, its arguments, and the error that is due -/
def CaseAt (H : Hp) (x : V) (va da : Addr) (vals : List V) (kvs : List (Key × V)) (ns : List Str) (res : Option Er) : Prop :=
  Args H va da vals kvs ns ∧ (kvs.map (·.1)).Nodup ∧ ((NoS H x ∧ res = some (.text (-1))) ∨ ∃ (ts : List Tk) (tl : List Nat), x = .str (S (flat ts ++ tl)) ∧ (flat ts ++ tl).length < 5000 ∧ 37 ∉ tl ∧ (∀ t ∈ ts, RdOk "template" t) ∧
    ((Bad "template" tl ∧ res = some (.text (((flat ts).length : Nat) : Int))) ∨ (tl = [] ∧ res = erOf (Tc.holes ts) vals ns (tabV kvs))))
theorem CaseAt.keep {H H' : Hp} {x : V} {va da : Addr} {vals : List V} {kvs : List (Key × V)} {ns : List Str} {res : Option Er} (h : CaseAt H x va da vals kvs ns res) (s : Same H H') : CaseAt H' x va da vals kvs ns res :=
  ⟨h.1.keep s, h.2.1, h.2.2.imp (fun z => ⟨z.1.keep s, z.2⟩) id⟩
def sp_Piece_ofB (Z : Ad) : Sp := fun vs H _ E => ∃ (x : V) (va da : Addr) (vals : List V) (kvs : List (Key × V)) (ns : List Str) (er : Er), vs = [.ref Z.c_Piece, x, .ref va, .ref da] ∧ CaseAt H x va da vals kvs ns (some er) ∧ RE Z er H E
theorem CaseAt.bad {Z : Ad} {H : Hp} {x : V} {va da : Addr} {vals : List V} {kvs : List (Key × V)} {ns : List Str} {er : Er} {E : XK} (h : CaseAt H x va da vals kvs ns (some er)) (q : RE Z er H E) {Q : VK} : sp_valuedB Z [x, .ref va, .ref da] H Q E := by
  refine ⟨x, va, da, rfl, ?_⟩
  obtain ⟨a, _, ⟨no, e⟩ | ⟨ts, tl, e1, e2, _, e4, ⟨bad, e⟩ | ⟨e5, e⟩⟩⟩ := h
  · cases e
    exact .inl ⟨no, q⟩
  · cases e
    exact .inr ⟨ts, tl, e1, by omega, e4, .inl ⟨bad, q⟩⟩
  · exact .inr ⟨ts, tl, e1, by omega, e4, .inr ⟨e5, vals, kvs, ns, er, a, e.symm, q⟩⟩
/-- what the law tells of an error -/
def erT : Er → List V
  | .text i => [.str "text", .int i]
  | .value v => [.str "value", v]
  | .mism a b => [.str "mismatch", .int (a : Nat), .int (b : Nat)]
  | .label k => [.str "label", .str (S k)]
  | .unused z => [.str "unused", .str z]
def sp_l_alone (Z : Ad) : Sp := fun vs H Q _ => ∃ (a : Addr) (er : Er) (dd : Addr), vs = [.ref a] ∧ Xh.IsX H a (erC Z er) dd (erF er) ∧ ∀ H', Same H H' → Q (.bl true) H'
def sp_l_raised : Sp := fun vs H Q _ => ∃ (x : V) (va da : Addr) (vals : List V) (kvs : List (Key × V)) (ns : List Str) (res : Option Er), vs = [x, .ref va, .ref da] ∧ CaseAt H x va da vals kvs ns res ∧
  (res = none → ∀ H', Same H H' → Q .non H') ∧ ∀ er, res = some er → ∀ (p : Addr) (H' : Hp), H p = none → H' p = some (.tup (erT er)) → Same H H' → Q (.ref p) H'
section
variable {P : Program} {w : World} {K : PySem.W.Frag} {mg : Str → Option Value} {base : Heap} {Z : Ad}
theorem ok_valuedX (T : Txt K mg Z) : FnOk P w K mg base (L2.CX P w) 5 Z.a_valued Z.d_valued ["text", "values", "named"] (fun vs H Q E => sp_valued vs H Q E ∨ sp_valuedB Z vs H Q E) := Xc.or (Xc.up (ok_valued T)) (ok_valuedB T)
theorem ok_Piece_ofB (T : Txt K mg Z) : FnOk P w K mg base (L2.CX P w) 9 Z.a_Piece_of Z.d_Piece_of ["cls", "text", "values", "table"] (sp_Piece_ofB Z) := by
  refine T.F_Piece_of.okX sc_Piece_of (fun vs H Q E h => ?_) (fun cdv A outer s H vs Q E hr h => ?_)
  · obtain ⟨x, va, da, vals, kvs, ns, er, rfl, _⟩ := h
    rfl
  · obtain ⟨x, va, da, vals, kvs, ns, er, rfl, h, q⟩ := h
    refine ⟨_, (pss_one (ps_ret (Pz.pe_mkVar (i := 0) T.mk_Piece (ok_Piece_init T) (hr.mono (by decide)) rfl (Or.inl rfl) pass0 (pa_cons (pe_make T.mk_Made (ok_Made_init T) (hr.mono (by decide)) (by rfl) T.g_Made T.b_Made_init .nil pass0 (pa_cons (pe_call (ok_valuedX T) (hr.mono (by decide)) (by rfl) T.g_valued T.F_valued.kp T.b_valued .nil (passes_call (takes_of rfl rfl rfl rfl) (fun _ _ _ _ h => h)) (pa_cons (pv 1) (pa_cons (pv 2) (pa_cons (pv 3) pa_nil)))) (pa_cons pe_str pa_nil))) pa_nil)))), ?_⟩
    refine Eg.w_sig (σ := [some (.ref Z.c_Piece), some x, some (.ref va), some (.ref da)]) rfl ?_
    walk_at "go"
    exact .inr (h.bad q)
theorem ok_Piece_ofX (T : Txt K mg Z) : FnOk P w K mg base (L2.CX P w) 9 Z.a_Piece_of Z.d_Piece_of ["cls", "text", "values", "table"] (fun vs H Q E => sp_Piece_of Z.c_Piece vs H Q E ∨ sp_Piece_ofB Z vs H Q E) := Xc.or (Xc.up (ok_Piece_of T)) (ok_Piece_ofB T)
end
end LW
end

section
namespace LW
open PySem L2 SX Tx Tl Tc Rp
/-! sorted names; sizes of repr -/
def insS (x : Str) : List Str → List Str
  | [] => [x]
  | y :: r => if PySem.Spec.ltCps y.cps.toList x.cps.toList = true then y :: insS x r else x :: y :: r
theorem insS_perm (x : Str) : ∀ l : List Str, (insS x l).Perm (x :: l)
  | [] => .refl _
  | y :: r => by
    unfold insS
    split
    · exact ((insS_perm x r).cons y).trans (.swap x y r)
    · exact .refl _
theorem rising_of : ∀ {r : List Str} {p : Str}, (p :: r).Pairwise Kq.leS → PyProof.Rows.risingS p r = true
  | [], _, _ => rfl
  | x :: r, p, h => by
    have h' := List.pairwise_cons.mp h
    show (!PySem.Spec.ltCps x.cps.toList p.cps.toList && PyProof.Rows.risingS x r) = true
    rw [show PySem.Spec.ltCps x.cps.toList p.cps.toList = false from h'.1 x List.mem_cons_self, rising_of h'.2]
    rfl
theorem sorted_of {l : List Str} (h : l.Pairwise Kq.leS) : PyProof.Rows.sortedS l = true := by
  cases l with
  | nil => rfl
  | cons x r => exact rising_of h
theorem insS_pw (x : Str) : ∀ {l : List Str}, l.Pairwise Kq.leS → (insS x l).Pairwise Kq.leS
  | [], _ => List.pairwise_singleton _ _
  | y :: r, h => by
    have h' := List.pairwise_cons.mp h
    unfold insS
    split
    · rename_i c
      refine List.pairwise_cons.mpr ⟨fun z hz => ?_, insS_pw x h'.2⟩
      rcases List.mem_cons.mp ((insS_perm x r).mem_iff.mp hz) with rfl | hz
      · rw [Kq.leS_iff]
        rw [PyProof.Rows.ltCps_eq, decide_eq_true_eq] at c
        exact fun z => List.lt_irrefl _ (List.lt_trans c z)
      · exact h'.1 z hz
    · rename_i c
      have c : Kq.leS x y := by
        unfold Kq.leS
        exact Bool.eq_false_iff.mpr c
      refine List.pairwise_cons.mpr ⟨fun z hz => ?_, h⟩
      rcases List.mem_cons.mp hz with rfl | hz
      · exact c
      · exact Kq.leS_trans c (h'.1 z hz)
theorem ex_sorted : ∀ zs : List Str, ∃ ns : List Str, ns.Perm zs ∧ PyProof.Rows.sortedS ns = true ∧ ns.Pairwise Kq.leS
  | [] => ⟨[], .refl _, rfl, .nil⟩
  | z :: r => by
    obtain ⟨ns, p, _, w⟩ := ex_sorted r
    have w' := insS_pw z w
    exact ⟨insS z ns, (insS_perm z ns).trans (p.cons z), sorted_of w', w'⟩
/-! sizes -/
theorem okn_all {k N : Nat} : ∀ {ds : List PyData}, (∀ d ∈ ds, Rn.Okn k N d) → PyData.showableAll ds = true ∧ PyData.depthAll ds ≤ k ∧ PyData.leavesShortAll 200 ds = true ∧ PyData.weightAll ds ≤ ds.length * (N + 1)
  | [], _ => ⟨rfl, Nat.zero_le _, rfl, Nat.zero_le _⟩
  | d :: r, h => by
    obtain ⟨a1, a2, a3, a4⟩ := okn_all fun x hx => h x (List.mem_cons_of_mem _ hx)
    obtain ⟨b1, b2, b3, b4⟩ := h d List.mem_cons_self
    refine ⟨by simp only [PyData.showableAll, a1, b1, Bool.and_self], by simp only [PyData.depthAll]; omega, by simp only [PyData.leavesShortAll, a3, b3, Bool.and_self], ?_⟩
    simp only [PyData.weightAll, List.length_cons, Nat.add_mul]
    omega
theorem okn_list {k N : Nat} {ds : List PyData} (h : ∀ d ∈ ds, Rn.Okn k N d) : Rn.Okn (k + 1) (ds.length * (N + 1)) (.list ds) := by
  obtain ⟨a1, a2, a3, a4⟩ := okn_all h
  exact ⟨by simp only [PyData.showable]; exact a1, by simp only [PyData.depth]; omega, by simp only [PyData.leavesShort]; exact a3, by simp only [PyData.weight]; exact a4⟩
theorem okn_tuple {k N : Nat} {ds : List PyData} (h : ∀ d ∈ ds, Rn.Okn k N d) : Rn.Okn (k + 1) (ds.length * (N + 1)) (.tuple ds) := by
  obtain ⟨a1, a2, a3, a4⟩ := okn_all h
  exact ⟨by simp only [PyData.showable]; exact a1, by simp only [PyData.depth]; omega, by simp only [PyData.leavesShort]; exact a3, by simp only [PyData.weight]; exact a4⟩
theorem okn_str {l : List Nat} (h : ∀ c ∈ l, c < 128) : Rn.Okn 0 l.length (.str (S l)) := .of (Ok.str fun c hc => Nat.lt_trans (h c hc) (by decide))
/-! the data of a case -/
theorem big6 {n : Nat} (h : n ≤ 10 ^ 6) : n ≤ 10 ^ 40 + 7 := Nat.le_trans h (by decide)
theorem okn_pair {d e : PyData} (h1 : Rn.Okn 2 5000 d) (h2 : Rn.Okn 2 5000 e) : Rn.Okn 60 80000 (.tuple [d, e]) :=
  (okn_tuple (k := 2) (N := 5000) (ds := [d, e]) fun x hx => by
    simp only [List.mem_cons, List.not_mem_nil, or_false] at hx
    rcases hx with rfl | rfl
    · exact h1
    · exact h2).mono (by decide) (show 2 * 5001 ≤ 80000 by decide)
theorem okn_lit {z : Str} {l : List Nat} (e : z = S l) (hl : l.length ≤ 20) (hc : ∀ c ∈ l, c < 128) : Rn.Okn 2 5000 (.str z) := by
  rw [e]
  exact (okn_str hc).mono (by decide) (by omega)
end LW
end

section
local macro_rules | `(tactic| walk_at "tx") => `(tactic| first
  | with_reducible refine Pz.w_star ?_
  | ((with_reducible refine' Pz.c_starL ?hs ?_); (case hs => walk_at "hp"))
  | with_reducible refine Pz.w_mkR ?_
  | ((with_reducible refine' Pz.w_mkVar ?hs ?_); (case hs => exact rfl))
  | with_reducible refine Mk.w_prop ?_
  | with_reducible refine Mk.w_methK ?_
  | with_reducible refine Ps.w_smethK ?_
  | with_reducible refine Ps.c_smK ?_
  | with_reducible refine Ps.w_smeth ?_
  | with_reducible refine Ps.c_sm ?_
  | with_reducible refine Ps.w_iRng3 ?_
  | with_reducible refine Tl.w_iE ?_
  | ((with_reducible refine' Po.c_ownS ?hs ?_); (case hs => walk_at "hp"))
  | ((with_reducible refine' Po.c_ownSR ?hs ?_); (case hs => walk_at "hp"))
  | ((with_reducible refine' Po.c_ownBool ?hs ?_); (case hs => walk_at "hp"))
  | ((with_reducible refine' Po.c_ownSet ?hs ?_); (case hs => walk_at "hp"))
  | with_reducible refine Gn.w_gThen ?_
  | with_reducible refine Gn.w_gFor ?_
  | with_reducible refine Gn.w_gIf ?_
  | with_reducible refine Gn.w_g0 ?_
  | (with_reducible show L2.GEnds.nx _ _ _ _; with_reducible refine Gn.w_gnx ?_)
  | with_reducible refine Ow.w_par3 ?_
  | with_reducible refine Ow.c_par3 ?_
  | with_reducible refine Po.w_tru ?_
  | ((with_reducible refine' Po.w_gUnl ?hs ?hn ?_); (case hs => walk_at "sq"); (case hn => exact rfl))
  | ((with_reducible refine' Po.c_truL ?hs ?_); (case hs => walk_at "hp"))
  | ((with_reducible refine' Po.c_boolL ?hs ?_); (case hs => walk_at "sq"))
  | ((with_reducible refine' Ow.c_ownLen ?hs ?_); (case hs => walk_at "hp"))
  | ((with_reducible refine' Ow.c_own2 ?hs ?hz ?_); (case hs => walk_at "hp"); (case hz => walk_at "hp")))
namespace LW
open PySem L2 SX Tx Tl Rp
/-! what stands beside objects that change -/
def KM (M : List Addr) (H H' : Hp) : Prop := ∀ c o, H c = some o → c ∉ M → H' c = some o
theorem KM.of {M : List Addr} {H H' : Hp} (s : Same H H') : KM M H H' := fun c o e _ => s c o e
theorem KM.trans {M : List Addr} {H H' H'' : Hp} (h : KM M H H') (h' : KM M H' H'') : KM M H H'' := fun c o e n => h' c o (h c o e n) n
theorem KM.mono {M N : List Addr} {H H' : Hp} (h : KM N H H') (s : ∀ c ∈ N, c ∈ M) : KM M H H' := fun c o e n => h c o e fun z => n (s c z)
theorem KM.kb {M : List Addr} {a : Addr} {H H' : Hp} (h : KeptB a H H') (s : a ∈ M) : KM M H H' := fun c o e n => h c o e fun z => n (by rw [z]; exact s)
def ML (M : List Addr) (H : Hp) : Prop := ∀ m ∈ M, ∃ xs, H m = some (.lst xs)
theorem ML.tup {M : List Addr} {H : Hp} {t : Addr} {xs : List V} (h : ML M H) (e : H t = some (.tup xs)) : t ∉ M := fun z => by
  obtain ⟨ys, e'⟩ := h t z
  rw [e] at e'
  cases e'
theorem ML.ins {M : List Addr} {H : Hp} {t C dx : Addr} {fs : List (Str × V)} (h : ML M H) (e : H t = some (.ins C dx fs)) : t ∉ M := fun z => by
  obtain ⟨ys, e'⟩ := h t z
  rw [e] at e'
  cases e'
theorem ML.new {M : List Addr} {H : Hp} {t : Addr} (h : ML M H) (e : H t = none) : t ∉ M := fun z => by
  obtain ⟨ys, e'⟩ := h t z
  rw [e] at e'
  cases e'
theorem ML.keep {M : List Addr} {H H' : Hp} (h : ML M H) (s : Same H H') : ML M H' := fun m hm => let ⟨xs, e⟩ := h m hm; ⟨xs, s _ _ e⟩
theorem PcsAt.km {M : List Addr} {H H' : Hp} {ys : List V} {ps : List Pc} (m : ML M H) (k : KM M H H') (h : PcsAt H ys ps) : PcsAt H' ys ps := h.same fun _ _ e => k _ _ e (m.tup e)
/-- parts in a list that does not change -/
def CellsF (M : List Addr) (H : Hp) (c : Addr) (ps : List Pp) : Prop := c ∉ M ∧ CellsAt H c ps
theorem CellsF.km {M : List Addr} {H H' : Hp} {c : Addr} {ps : List Pp} (m : ML M H) (k : KM M H H') (h : CellsF M H c ps) : CellsF M H' c ps := by
  obtain ⟨n, ys, h1, h2⟩ := h
  exact ⟨n, ys, k _ _ h1 n, PcsAt.km m k h2⟩
def PieceF (M : List Addr) (C : Addr) (H : Hp) (x : Addr) (A : List Pp × Str) : Prop := ∃ dx ca, H x = some (.ins C dx (fldsP ca A.2 (S (tmpl A.1)))) ∧ CellsF M H ca A.1
theorem PieceF.km {M : List Addr} {C : Addr} {H H' : Hp} {x : Addr} {A : List Pp × Str} (m : ML M H) (k : KM M H H') (h : PieceF M C H x A) : PieceF M C H' x A := by
  obtain ⟨dx, ca, h1, h2⟩ := h
  exact ⟨dx, ca, k _ _ h1 (m.ins h1), h2.km m k⟩
theorem PieceF.at_ {M : List Addr} {C : Addr} {H : Hp} {x : Addr} {A : List Pp × Str} (h : PieceF M C H x A) : PieceAt C H x A.1 A.2 := let ⟨dx, ca, h1, _, h2⟩ := h; ⟨dx, ca, h1, h2⟩
theorem PieceN.f {M : List Addr} {C : Addr} {H H' : Hp} {x : Addr} {A : List Pp × Str} (m : ML M H) (h : PieceN C H H' x A.1 A.2) : PieceF M C H' x A := let ⟨dx, ca, h0, h1, h2⟩ := h; ⟨dx, ca, h1, m.new h0, h2⟩
theorem KM.free {M : List Addr} {H H' : Hp} {c : Addr} (m : ML M H') (k : KM M H H') (e : H' c = none) : H c = none := by
  cases e2 : H c with
  | none => rfl
  | some o =>
    rw [k c o e2 (m.new e)] at e
    cases e
end LW
end

section
local macro_rules | `(tactic| walk_at "tx") => `(tactic| first
  | with_reducible refine Ex.w_methKS ?_
  | with_reducible refine Co.w_makeS ?_
  | with_reducible refine Co.w_callOS ?_
  | with_reducible refine Co.c_callOS ?_
  | ((with_reducible refine' Co.c_callSA ?hs ?_); (case hs => walk_at "hp"))
  | with_reducible refine Ow.w_callO ?_
  | with_reducible refine Ow.c_callO ?_
  | ((with_reducible refine' Ow.c_callA ?hs ?_); (case hs => walk_at "hp"))
  | with_reducible refine Ex.w_callS ?_
  | with_reducible refine Ex.w_rs ?_
  | with_reducible refine Ex.w_xg ?_
  | with_reducible refine Xc.w_cmethS ?_
  | with_reducible refine Xh.w_callH ?_
  | with_reducible refine Xc.c_cmS ?_
  | with_reducible refine Pz.w_star ?_
  | ((with_reducible refine' Pz.c_starL ?hs ?_); (case hs => walk_at "hp"))
  | with_reducible refine Pz.w_mkR ?_
  | ((with_reducible refine' Pz.w_mkVar ?hs ?_); (case hs => exact rfl))
  | with_reducible refine Po.w_iSeq ?_
  | ((with_reducible refine' Po.c_ixA ?hs ?hv ?_); (case hs => assumption); (case hv => walk_at "at"))
  | ((with_reducible refine' Po.c_lenA ?hs ?_); (case hs => assumption)))
namespace LW
open PySem L2 SX Tx Tl Tc Rp
/-! templates: made, called, refused -/
def fldsT (l : List Nat) (t : Addr) (n : Nat) : List (Str × V) := [("text", .str (S l)), ("labels", .ref t), ("places", .int (n : Int))]
/-- the labels, each once, in the order of their first holes -/
def labsT (ps : List Pp) : List Key := uniq ((ps.filterMap labP).map fun k => (.inr (S k) : Key))
def TmplAt (C : Addr) (H : Hp) (a : Addr) (ps : List Pp) : Prop := ∃ dx t, H a = some (.ins C dx (fldsT (tmpl ps) t (ps.filterMap valP).length)) ∧ H t = some (.tup ((labsT ps).map kV))
theorem TmplAt.keep {C : Addr} {H H' : Hp} {a : Addr} {ps : List Pp} (h : TmplAt C H a ps) (s : Same H H') : TmplAt C H' a ps := let ⟨dx, t, h1, h2⟩ := h; ⟨dx, t, s _ _ h1, s _ _ h2⟩
theorem lk_tl (l : List Nat) (t : Addr) (n : Nat) : (fldsT l t n).lookup ("labels" : Str) = some (V.ref t) := by rfl
theorem lk_tp (l : List Nat) (t : Addr) (n : Nat) : (fldsT l t n).lookup ("places" : Str) = some (V.int (n : Int)) := by rfl
theorem labsT_snoc_say (ps : List Pp) (l : List Nat) : labsT (ps ++ [.inl l]) = labsT ps := by
  unfold labsT
  rw [List.filterMap_append, show [(.inl l : Pp)].filterMap labP = [] from rfl, List.append_nil]
theorem labsT_snoc_emp (ps : List Pp) (v : V) : labsT (ps ++ [.inr ([], v)]) = labsT ps := by
  unfold labsT
  rw [List.filterMap_append, show [(.inr ([], v) : Pp)].filterMap labP = [] from rfl, List.append_nil]
theorem labsT_snoc (ps : List Pp) (c : Nat) (k : List Nat) (v : V) : labsT (ps ++ [.inr (c :: k, v)]) = add1 (labsT ps) (.inr (S (c :: k))) := by
  unfold labsT
  rw [List.filterMap_append, show [(.inr (c :: k, v) : Pp)].filterMap labP = [c :: k] from rfl, List.map_append]
  exact uniq_snoc _ _
theorem labsT_merge (ps : List Pp) : labsT (mergeP ps) = labsT ps := by
  unfold labsT
  rw [mergeP_lab]
theorem labsT_len (ps : List Pp) : (labsT ps).length ≤ ps.length := by
  unfold labsT
  refine Nat.le_trans (uniq_len _) ?_
  rw [List.length_map]
  exact List.length_filterMap_le _ _
theorem Gp.tph {p : Pp} (h : Gp p) : TP (hk p) := by
  have := h.tp
  cases p with
  | inl l => exact this
  | inr x =>
    obtain ⟨k, v⟩ := x
    exact fun y hy => this y (by
      have hy : y ∈ [V.str "hole", .str (S k)] := hy
      show y ∈ [V.str "hole", .str (S k), v]
      rcases List.mem_cons.mp hy with rfl | hy
      · exact List.mem_cons_self
      · rw [List.mem_singleton.mp hy]
        exact .tail _ List.mem_cons_self)
def hoD : PyData := .tuple [.str "hole", .str ""]
theorem ho_pc : dPc (hole []) = hoD := by
  show PyData.tuple [.str "hole", .str (S [])] = .tuple [.str "hole", .str ""]
  rw [show ("" : Str) = S [] by decide +kernel]
theorem tp_ho : TP (hole []) := fun y hy => by
  have hy : y ∈ [V.str "hole", .str (S [])] := hy
  rcases List.mem_cons.mp hy with rfl | hy
  · rw [hole_S]
    exact .str _ (by decide)
  · rw [List.mem_singleton.mp hy]
    exact .str _ (fun _ z => nomatch z)
theorem eqv_hk (p : Pp) : PyData.eqv (dPc (hk p)) hoD = (valP p).isSome := by
  cases p with
  | inl l =>
    show PyData.eqv (.tuple [.str "say", .str (S l)]) (.tuple [.str "hole", .str ""]) = false
    rw [PyData.eqv, PyData.eqvAll, PyData.eqv, beq_false_of_ne (show ("say" : Str) ≠ "hole" by decide +kernel), Bool.false_and]
  | inr x =>
    obtain ⟨k, v⟩ := x
    show PyData.eqv (.tuple [.str "hole", .str (S k)]) (.tuple [.str "hole", .str ""]) = _
    rw [show ("" : Str) = S [] by decide +kernel]
    simp only [PyData.eqv, PyData.eqvAll, beq_self_eq_true, Bool.true_and, Bool.and_true]
    cases k with
    | nil => rw [beq_self_eq_true]; rfl
    | cons c k => rw [beq_false_of_ne (show S (c :: k) ≠ S [] from fun z => List.cons_ne_nil _ _ (S_inj z))]; rfl
theorem c_eqHole {K : PySem.W.Frag} {H : Hp} {t u : Addr} {p : Pp} {Q : VK} (ht : H t = some (.tup (hk p).vs)) (hp : H u = some (.tup [.str "hole", .str ""])) (h : TP (hk p)) (k : Q (.bl (valP p).isSome) H) : rEqD K (.ref t) (.ref u) H Q :=
  ⟨dPc (hk p), hoD, .tup (SqT.of ht) (dp_tvs h), .tup (SqT.of hp) (.cons (.str _) (.cons (.str _) .nil)), shape_pc h, by rw [← ho_pc]; exact shape_pc tp_ho, by rw [eqv_hk]; exact k⟩
def sp_template_ofK : Sp := fun vs H Q _ => ∃ (a : Addr) (ys : List V) (ps : List Pp), vs = [.ref a] ∧ H a = some (.lst ys) ∧ PcsAt H ys (ps.map hk) ∧ Few ps ∧ ∀ H', Same H H' → Q (.str (S (tmpl ps))) H'
def sp_Template_init (C : Addr) : Sp := fun vs H Q _ => ∃ (q dx : Addr) (ps : List Pp), vs = [.ref q, .str (S (tmpl ps))] ∧ H q = some (.ins C dx []) ∧ Few ps ∧ (∀ p ∈ ps, Gp p) ∧
  ∀ (t : Addr) (H' : Hp), H t = none → H' q = some (.ins C dx (fldsT (tmpl ps) t (ps.filterMap valP).length)) → H' t = some (.tup ((labsT ps).map kV)) → (∀ c o, H c = some o → c ≠ q → H' c = some o) → Q .non H'
def sp_Template_initB (C CB : Addr) : Sp := fun vs H _ E => ∃ (q dx : Addr) (x : V), vs = [.ref q, x] ∧ H q = some (.ins C dx []) ∧ ((NoS H x ∧ RT CB (-1) H E) ∨ ∃ (ts : List Tk) (tl : List Nat), x = .str (S (flat ts ++ tl)) ∧ (flat ts ++ tl).length < 40000 ∧ (∀ t ∈ ts, RdOk "template" t) ∧
  Bad "template" tl ∧ RT CB (((flat ts).length : Nat) : Int) H E)
def sp_Template_call (C CP : Addr) : Sp := fun vs H Q _ => ∃ (t dx lt : Addr) (n : Nat) (va : Addr) (y : V) (ps : List Pp) (kvs : List (Key × V)), vs = [.ref t, .ref va, y] ∧ H t = some (.ins C dx (fldsT (tmpl ps) lt n)) ∧ Po.SeqAt H va (ps.filterMap valP) ∧ Few ps ∧ (∀ p ∈ ps, PpOk p) ∧ TabP ps kvs ∧
  ((∃ da, y = .ref da ∧ H da = some (.dK kvs)) ∨ (y = .non ∧ kvs = [])) ∧ ∀ (x : Addr) (H' : Hp), H x = none → PieceN CP H H' x (mergeP ps) "term" → Same H H' → Q (.ref x) H'
/-- a call of a template that is refused -/
def CallAt (C : Addr) (H : Hp) (t va : Addr) (y : V) (er : Er) : Prop := ∃ (dx lt : Addr) (n : Nat) (l : List Nat) (vals : List V) (kvs : List (Key × V)) (ns : List Str), H t = some (.ins C dx (fldsT l lt n)) ∧
  ((∃ da, y = .ref da ∧ CaseAt H (.str (S l)) va da vals kvs ns (some er)) ∨ (y = .non ∧ ∀ (da : Addr) (H' : Hp), H da = none → H' da = some (.dK []) → Same H H' → CaseAt H' (.str (S l)) va da vals [] ns (some er)))
def sp_Template_callB (Z : Ad) : Sp := fun vs H _ E => ∃ (t va : Addr) (y : V) (er : Er), vs = [.ref t, .ref va, y] ∧ CallAt Z.c_Template H t va y er ∧ RE Z er H E
def sp_l_raisedT (Z : Ad) : Sp := fun vs H Q _ => ∃ (t va : Addr) (y : V) (er : Er), vs = [.ref t, .ref va, y] ∧ CallAt Z.c_Template H t va y er ∧ (∀ i, er ≠ .text i) ∧ ∀ (p : Addr) (H' : Hp), H p = none → H' p = some (.tup (erT er)) → Same H H' → Q (.ref p) H'
def sp_l_wrong : Sp := fun vs H Q _ => ∃ x : V, vs = [x] ∧ ((NoS H x ∧ ∀ H', Same H H' → Q (.int (-1)) H') ∨ ∃ (ts : List Tk) (tl : List Nat), x = .str (S (flat ts ++ tl)) ∧ (flat ts ++ tl).length < 20000 ∧ (∀ t ∈ ts, RdOk "template" t) ∧ (tl = [] ∨ Bad "template" tl) ∧ ∀ H', Same H H' → Q (atV ts tl) H')
/-- the tokens of a text as parts -/
def tkP : Tk → Pp
  | .ch c => .inl [c]
  | .ho k => .inr (k, .int 0)
theorem tkP_tmpl : ∀ ts : List Tk, tmpl (ts.map tkP) = flat ts
  | [] => rfl
  | .ch c :: r => congrArg (c :: ·) (tkP_tmpl r)
  | .ho k :: r => by
    show 123 :: (k ++ [125]) ++ tmpl (r.map tkP) = 123 :: (k ++ 125 :: flat r)
    rw [tkP_tmpl r]
    simp
theorem dv0 : DV (.int 0) := .int _ (by unfold most; decide)
theorem tkP_gp {ts : List Tk} (h : ∀ t ∈ ts, RdOk "template" t) : ∀ p ∈ ts.map tkP, Gp p := fun p hp => by
  obtain ⟨t, ht, rfl⟩ := List.mem_map.mp hp
  have r := h t ht
  cases t with
  | ch c =>
    show [c].all litB = true
    have r : litB c = true := r
    rw [List.all_cons, r]
    rfl
  | ho k =>
    cases k with
    | nil => exact ⟨.inl rfl, Nat.zero_le _, dv0⟩
    | cons c k =>
      have lb := key_lab r.2.2
      exact ⟨.inr lb, lab14 lb, dv0⟩
section
variable {P : Program} {w : World} {K : PySem.W.Frag} {mg : Str → Option Value} {base : Heap} {Z : Ad}
theorem ok_template_ofK (T : Txt K mg Z) : FnOk P w K mg base CX0 1 Z.a_template_of Z.d_template_of ["cells"] sp_template_ofK := by
  refine T.F_template_of.ok sc_template_of (fun vs H Q E h => ?_) (fun cdv A outer s H vs Q E hr h => ?_)
  · obtain ⟨a, ys, ps, rfl, _⟩ := h
    rfl
  · obtain ⟨a, ys, ps, rfl, ha, py, few, q⟩ := h
    have nd := sc_template_of.nd
    refine ⟨_, (pss_one (ps_ret (pe_join pe_str (pe_lc (own := [("part", 1)]) rfl nd (pi_list (pv 0)) (blkOk_by (N := N_template_of) (sc := defScope s_template_of) (by decide +kernel)) (fun _ _ _ _ _ => (pg_name (i := 1) nd rfl (Or.inl rfl))) (fun _ _ _ _ _ => pts_nil) (fun _ _ _ _ _ => (Eg.peE (pe_ifExp (pt_cmpR op_eq (pe_ix ix_tup (pv 1) pe_int (fun _ _ => rfl)) pe_str (nomark _)) (pe_ix ix_tup (pv 1) pe_int (fun _ _ => rfl)) (pe_op Es.op_addS (pe_op Es.op_addS pe_str (pe_ix ix_tup (pv 1) pe_int (fun _ _ => rfl))) pe_str)) (by walk_at "blk"))))))), ?_⟩
    refine Eg.w_sig (σ := [some (.ref a), none]) rfl ?_
    walk_at "gw"
    obtain ⟨L, h1, h2, h3⟩ := pairs_of py
    rw [h1] at ha
    have ll : L.length = ps.length := by rw [← h2, List.length_map]
    have ml : ∀ z ∈ L, (tmplP z.2).length < 40000 := fun z hz => Nat.lt_of_le_of_lt (tmpl_mem (by rw [← h2]; exact List.mem_map.mpr ⟨z, hz, rfl⟩)) few.2
    refine fm_list (xs := L) (G := fun q => .ref q.1) (F := fun q => .str (S (tmplP q.2))) (P := fun _ => true) ha (by have := few.1; omega) (fun R h => ?_) (fun H' z R s' hz h => ?_) (fun H' z R s' hz hp h => ?_) (fun Y H5 hY s5 h5 => ?_)
    · walk_at "go"
      exact h
    · walk_at "go"
      exact h _ (Same.refl _)
    · obtain ⟨t', c⟩ := z
      have ht := s' _ _ (h3 _ hz)
      have := ml _ hz
      cases c with
      | inl l =>
        have ht : H' t' = some (.tup [.str "say", .str (S l)]) := ht
        walk_at "go"
        rw [decide_eq_true (rfl : V.str "say" = V.str "say")]
        walk_at "go"
        exact h _ (Same.refl _)
      | inr x =>
        obtain ⟨k, v⟩ := x
        have ht : H' t' = some (.tup [.str "hole", .str (S k)]) := ht
        walk_at "go"
        rw [decide_eq_false (show ¬ V.str "hole" = V.str "say" from fun z => absurd (V.str.inj z) (by decide +kernel))]
        have kl : k.length + 2 < 40000 := by
          have e : (tmplP (.inr (k, v))).length = k.length + 2 := by
            show (123 :: (k ++ [125])).length = _
            rw [List.length_cons, List.length_append]
            rfl
          rw [e] at this
          exact this
        walk_at "go"
        refine c_addO (by omega) ?_
        walk_at "go"
        refine c_addC (by rw [List.length_cons]; omega) ?_
        exact h _ (Same.refl _)
    · rw [List.filter_eq_self.mpr fun _ _ => rfl] at h5
      walk_at "go"
      have f1 := few.1
      have f2 := few.2
      refine Es.jn_leaf (ys := (ps.map tmplP).map S) (.inl (SqL.of (by rw [h5, ← h2, List.map_map, List.map_map, List.map_map]; rfl))) ?_ ?_
      · rw [sum_len, tmpl_flat, List.length_map, List.length_map, show ("" : Str).length = 0 by decide +kernel]
        omega
      · rw [join_emp, tmpl_flat]
        exact q H5 s5
set_option maxHeartbeats 8000000 in
theorem ok_Template_init (T : Txt K mg Z) : FnOk P w K mg base CX0 6 Z.a_Template_init Z.d_Template_init ["self", "text"] (sp_Template_init Z.c_Template) := by
  refine T.F_Template_init.ok sc_Template_init (fun vs H Q E h => ?_) (fun cdv A outer s H vs Q E hr h => ?_)
  · obtain ⟨q, dx, ps, rfl, _⟩ := h
    rfl
  · obtain ⟨qa, dx, ps, rfl, hq, few, gp, q⟩ := h
    have nd := sc_Template_init.nd
    have cT := T.cl_Template
    have n1 := T.n_Template_text
    have n2 := T.n_Template_labels
    have n3 := T.n_Template_places
    refine ⟨_, (pss_cons (ps_set (i := 2) nd rfl (Or.inl rfl) (pe_call (ok_read_parts T) (hr.mono (by decide)) (by rfl) T.g_read_parts T.F_read_parts.kp T.b_read_parts .nil pass0 (pa_cons (pv 1) (pa_cons pe_str pa_nil))))
  (pss_cons (ps_set (i := 3) nd rfl (Or.inl rfl) (pe_lst pa_nil))
  (pss_cons (ps_for PassesOwn.never rfl (pi_list (pv 2)) (pg_name (i := 4) nd rfl (Or.inl rfl))
  (pss_one (ps_if (PW.pt (pw_and (pt_cmpR op_eq (pe_ix ix_tup (pv 4) pe_int (fun _ _ => rfl)) pe_str (nomark _)) (pw_and (pt_cmpR op_ne (pe_ix ix_tup (pv 4) pe_int (fun _ _ => rfl)) pe_str (nomark _)) (pw_and1 (pt_cmpR op_notIn_seq (pe_ix ix_tup (pv 4) pe_int (fun _ _ => rfl)) (pv 3) (by rfl))))))
  (pss_one (ps_expr (pe_bm PySem.F.plainAttrs_list PySem.F.slot_list_append PySem.F.type_list_append mt_append (pv 3) (pa_cons (pe_ix ix_tup (pv 4) pe_int (fun _ _ => rfl)) pa_nil))))
  pss_nil)))
  (pss_cons (ps_fld (pv 0) (pe_call (ok_template_ofK T) (hr.mono (by decide)) (by rfl) T.g_template_of T.F_template_of.kp T.b_template_of .nil pass0 (pa_cons (pv 2) pa_nil)) rfl)
  (pss_cons (ps_fld (pv 0) (pe_callTy Eg.cr_tup (by rfl) T.u_tuple (by decide +kernel) (pa_cons (pv 3) pa_nil)) rfl)
  (pss_one (ps_fld (pv 0) (pe_callB Eg.cr_len (by rfl) T.u_len (by decide +kernel) (pa_cons (pe_lc (own := [("part", 4)]) rfl nd (pi_list (pv 2)) (blkOk_by (N := N_Template_init) (sc := defScope s_Template_init) (by decide +kernel)) (fun _ _ _ _ _ => (pg_name (i := 4) nd rfl (Or.inl rfl))) (fun _ _ _ _ _ => (Eg.ptsE (pts_one (pt_cmpR (op_eqD hr.units) (pv 4) (pe_tup (pa_cons pe_str (pa_cons pe_str pa_nil))) (nomark _))) (by walk_at "blk"))) (fun _ _ _ _ _ => (Eg.peE (pv 4) (by walk_at "blk")))) pa_nil)) rfl))))))), ?_⟩
    refine Eg.w_sig (σ := [some (.ref qa), some (.str (S (tmpl ps))), none, none, none]) rfl ?_
    walk_at "go"
    refine ⟨tokP ps, "template", by rw [flat_tokP]; rfl, by rw [flat_tokP]; exact few.2, tok_ok fun p hp => (gp p hp).ok, fun p ys H1 hp h1p py s1 => ?_⟩
    rw [read_tokP] at py
    obtain ⟨L, e1, e2, e3⟩ := pairs_of py
    have fm := few.merge
    have ll : L.length = (mergeP ps).length := by rw [← e2, List.length_map]
    have hq1 := s1 _ _ hq
    have hpq : p ≠ qa := (ne_of_none hq hp).symm
    walk_at "go"
    intro f hf
    have fp : f ≠ p := (ne_of_none h1p hf).symm
    have fq : f ≠ qa := (ne_of_none hq1 hf).symm
    have f0 : H f = none := s1.free hf
    walk_at "go"
    refine for_list (xs := ys) (fun j σ' H' => ∃ (v4 : Option V), σ' = [some (.ref qa), some (.str (S (tmpl ps))), some (.ref p), some (.ref f), v4] ∧ H' f = some (.lst ((labsT ((mergeP ps).take j)).map kV)) ∧ Same H1 H') ⟨none, rfl, upd_same, fun c o e => Eg.upd_old e hf⟩ ?_ ?_ ?_
    · rintro j _ H2 _ ⟨v4, rfl, _, s2⟩
      exact SqL.of (s2 _ _ h1p)
    · rintro j x _ H2 hx ⟨v4, rfl, h2f, s2⟩
      rw [e1, List.getElem?_map] at hx
      obtain ⟨⟨t, c⟩, hc, rfl⟩ := Option.map_eq_some_iff.mp hx
      have ht := s2 _ _ (e3 _ (List.mem_of_getElem? hc))
      have hcm : (mergeP ps)[j]? = some c := by rw [← e2, List.getElem?_map, hc]; rfl
      obtain ⟨hlt, he⟩ := List.getElem?_eq_some_iff.mp hcm
      have tk : (mergeP ps).take (j + 1) = (mergeP ps).take j ++ [c] := by rw [List.take_succ_eq_append_getElem hlt, he]
      have ul := labsT_len ((mergeP ps).take j)
      rw [List.length_take] at ul
      have fm1 := fm.1
      cases c with
      | inl l =>
        have ht : H2 t = some (.tup [.str "say", .str (S l)]) := ht
        walk_at "go"
        rw [d_sh']
        walk_at "go"
        exact ⟨_, rfl, by rw [tk, labsT_snoc_say]; exact h2f, s2⟩
      | inr y =>
        obtain ⟨k, v⟩ := y
        have ht : H2 t = some (.tup [.str "hole", .str (S k)]) := ht
        walk_at "go"
        rw [decide_eq_true (rfl : V.str "hole" = V.str "hole")]
        walk_at "go"
        rw [str_emp]
        cases k with
        | nil =>
          rw [decide_eq_true (rfl : ([] : List Nat) = [])]
          walk_at "go"
          exact ⟨_, rfl, by rw [tk, labsT_snoc_emp]; exact h2f, s2⟩
        | cons c k =>
          rw [decide_eq_false (show ¬ (c :: k) = [] from fun z => nomatch z)]
          walk_at "go"
          refine Tw.c_notIn (k := .inr (S (c :: k))) h2f ?_
          by_cases hm : (.inr (S (c :: k)) : Key) ∈ labsT ((mergeP ps).take j)
          · rw [decide_eq_true hm]
            walk_at "go"
            refine ⟨_, rfl, ?_, s2⟩
            rw [tk, labsT_snoc]
            unfold add1
            rw [if_pos hm]
            exact h2f
          · rw [decide_eq_false hm]
            walk_at "go"
            refine ⟨_, rfl, ?_, fun c o e => Eg.upd_mut (ne_of_none e hf) (s2 c o e)⟩
            rw [upd_same, tk, labsT_snoc]
            unfold add1
            rw [if_neg hm, List.map_append]
            rfl
    · rintro _ H2 ⟨v4, rfl, h2f, s2⟩
      have yl : ys.length = (mergeP ps).length := by rw [e1, List.length_map, ll]
      rw [yl, List.take_length, labsT_merge] at h2f
      have hq2 := s2 _ _ hq1
      have h2p := s2 _ _ h1p
      have py2 : PcsAt H2 ys ((mergeP ps).map hk) := py.same fun b zs e => s2 _ _ e
      have lt := labsT_len ps
      have fw1 := few.1
      walk_at "go"
      refine ⟨p, ys, mergeP ps, rfl, h2p, py2, fm, fun H3 s3 => ?_⟩
      rw [mergeP_tmpl]
      have hq3 := s3 _ _ hq2
      have h3f := s3 _ _ h2f
      have h3p := s3 _ _ h2p
      have py3 : PcsAt H3 ys ((mergeP ps).map hk) := py2.same fun b zs e => s3 _ _ e
      walk_at "go"
      have h4q : upd H3 qa (.ins Z.c_Template dx (putF "text" (.str (S (tmpl ps))) [])) qa = some (.ins Z.c_Template dx (putF "text" (.str (S (tmpl ps))) [])) := upd_same
      have k4 : ∀ c o, H3 c = some o → c ≠ qa → upd H3 qa (.ins Z.c_Template dx (putF "text" (.str (S (tmpl ps))) [])) c = some o := fun c o e n => Eg.upd_mut n e
      have f4 : ∀ c, upd H3 qa (.ins Z.c_Template dx (putF "text" (.str (S (tmpl ps))) [])) c = none → H3 c = none := fun c e => by
        by_cases n : c = qa
        · rw [n, upd_same] at e; cases e
        · rwa [upd_ne n] at e
      generalize upd H3 qa (.ins Z.c_Template dx (putF "text" (.str (S (tmpl ps))) [])) = H4 at h4q k4 f4 ⊢
      have h4f := k4 _ _ h3f fq
      have h4p := k4 _ _ h3p hpq
      refine Eg.c_tupL (SqL.of h4f) fun l hl => ?_
      have hl0 := f4 _ hl
      have lq : l ≠ qa := (ne_of_none hq3 hl0).symm
      have lH : H l = none := ((s1.trans s2).trans s3).free hl0
      have h5l : upd H4 l (.tup ((labsT ps).map kV)) l = some (.tup ((labsT ps).map kV)) := upd_same
      have h5q : upd H4 l (.tup ((labsT ps).map kV)) qa = _ := Eg.upd_old h4q hl
      have k5 : ∀ c o, H3 c = some o → c ≠ qa → upd H4 l (.tup ((labsT ps).map kV)) c = some o := fun c o e n => Eg.upd_old (k4 c o e n) hl
      generalize upd H4 l (.tup ((labsT ps).map kV)) = H5 at h5l h5q k5 ⊢
      walk_at "gw"
      have h6q : upd H5 qa (.ins Z.c_Template dx (putF "labels" (.ref l) (putF "text" (.str (S (tmpl ps))) []))) qa = some (.ins Z.c_Template dx (putF "labels" (.ref l) (putF "text" (.str (S (tmpl ps))) []))) := upd_same
      have h6l : upd H5 qa (.ins Z.c_Template dx (putF "labels" (.ref l) (putF "text" (.str (S (tmpl ps))) []))) l = some (.tup ((labsT ps).map kV)) := Eg.upd_mut lq h5l
      have k6 : ∀ c o, H3 c = some o → c ≠ qa → upd H5 qa (.ins Z.c_Template dx (putF "labels" (.ref l) (putF "text" (.str (S (tmpl ps))) []))) c = some o := fun c o e n => Eg.upd_mut n (k5 c o e n)
      generalize upd H5 qa (.ins Z.c_Template dx (putF "labels" (.ref l) (putF "text" (.str (S (tmpl ps))) []))) = H6 at h6q h6l k6 ⊢
      have h6p := k6 _ _ h3p hpq
      rw [e1] at h6p
      have fm1 := fm.1
      refine fm_list (xs := L) (G := fun q => .ref q.1) (F := fun q => .ref q.1) (P := fun q => (valP q.2).isSome) h6p (by omega) (fun R h => ?_) (fun H' z R s' hz h => ?_) (fun H' z R s' hz hp h => ?_) (fun Y H7 hY s7 h7 => ?_)
      · walk_at "go"
        exact h
      · have tq : z.1 ≠ qa := fun z' => by
          have := e3 _ hz
          rw [z', hq1] at this
          cases this
        have hz3 := s' _ _ (k6 _ _ (s3 _ _ (s2 _ _ (e3 _ hz))) tq)
        have zm : z.2 ∈ mergeP ps := by rw [← e2]; exact List.mem_map.mpr ⟨z, hz, rfl⟩
        walk_at "go"
        intro u hu'
        have h8 : upd H' u (.tup [.str "hole", .str ""]) u = some (.tup [.str "hole", .str ""]) := upd_same
        have s8 : Same H' (upd H' u (.tup [.str "hole", .str ""])) := fun c o e => Eg.upd_old e hu'
        generalize upd H' u (.tup [.str "hole", .str ""]) = H8 at h8 s8 ⊢
        refine c_eqHole (s8 _ _ hz3) h8 (mergeP_gp gp _ zm).tph ?_
        exact ⟨_, rfl, h _ s8⟩
      · walk_at "go"
        exact h _ (Same.refl _)
      have hc : (L.filter fun q => (valP q.2).isSome).length = (ps.filterMap valP).length := by
        rw [← mergeP_val, ← e2]
        clear h7 h6p e1 e2 e3 ll
        induction L with
        | nil => rfl
        | cons x r ih =>
          rw [List.map_cons, List.filterMap_cons, List.filter_cons]
          cases hx : valP x.2 with
          | none => exact ih
          | some v => exact congrArg (· + 1) ih
      have h7q := s7 _ _ h6q
      have h7l := s7 _ _ h6l
      have hcl : (L.filter fun q => (valP q.2).isSome).length ≤ L.length := List.length_filter_le _ _
      walk_at "go"
      rw [List.length_map, hc]
      refine q l _ lH (by rw [upd_same]; rfl) (Eg.upd_mut lq h7l) fun c o e n => Eg.upd_mut n (s7 _ _ (k6 _ _ (s3 _ _ (s2 _ _ (s1 _ _ e))) n))
set_option maxHeartbeats 8000000 in
theorem ok_Template_initB (T : Txt K mg Z) : FnOk P w K mg base (L2.CX P w) 6 Z.a_Template_init Z.d_Template_init ["self", "text"] (sp_Template_initB Z.c_Template Z.c_BadText) := by
  refine T.F_Template_init.okX sc_Template_init (fun vs H Q E h => ?_) (fun cdv A outer s H vs Q E hr h => ?_)
  · obtain ⟨q, dx, x, rfl, _⟩ := h
    rfl
  · obtain ⟨qa, dx, x, rfl, hq, h⟩ := h
    have nd := sc_Template_init.nd
    refine ⟨_, (pss_cons (ps_set (i := 2) nd rfl (Or.inl rfl) (pe_call (ok_read_partsX T) (hr.mono (by decide)) (by rfl) T.g_read_parts T.F_read_parts.kp T.b_read_parts .nil (passes_call (takes_of rfl rfl rfl rfl) (fun _ _ _ _ h => h)) (pa_cons (pv 1) (pa_cons pe_str pa_nil))))
  (pss_cons (ps_set (i := 3) nd rfl (Or.inl rfl) (pe_lst pa_nil))
  (pss_cons (ps_for (passes_of rfl) rfl (pi_list (pv 2)) (pg_name (i := 4) nd rfl (Or.inl rfl))
  (pss_one (ps_if (PW.pt (pw_and (pt_cmpR op_eq (pe_ix ix_tup (pv 4) pe_int (fun _ _ => rfl)) pe_str (nomark _)) (pw_and (pt_cmpR op_ne (pe_ix ix_tup (pv 4) pe_int (fun _ _ => rfl)) pe_str (nomark _)) (pw_and1 (pt_cmpR op_notIn_seq (pe_ix ix_tup (pv 4) pe_int (fun _ _ => rfl)) (pv 3) (by rfl))))))
  (pss_one (ps_expr (pe_bm PySem.F.plainAttrs_list PySem.F.slot_list_append PySem.F.type_list_append mt_append (pv 3) (pa_cons (pe_ix ix_tup (pv 4) pe_int (fun _ _ => rfl)) pa_nil))))
  pss_nil)))
  (pss_cons (ps_fld (pv 0) (pe_call (ok_template_ofK T) (hr.mono (by decide)) (by rfl) T.g_template_of T.F_template_of.kp T.b_template_of .nil pass0 (pa_cons (pv 2) pa_nil)) rfl)
  (pss_cons (ps_fld (pv 0) (pe_callTy Eg.cr_tup (by rfl) T.u_tuple (by decide +kernel) (pa_cons (pv 3) pa_nil)) rfl)
  (pss_one (ps_fld (pv 0) (pe_callB Eg.cr_len (by rfl) T.u_len (by decide +kernel) (pa_cons (pe_lc (own := [("part", 4)]) rfl nd (pi_list (pv 2)) (blkOk_by (N := N_Template_init) (sc := defScope s_Template_init) (by decide +kernel)) (fun _ _ _ _ _ => (pg_name (i := 4) nd rfl (Or.inl rfl))) (fun _ _ _ _ _ => (Eg.ptsE (pts_one (pt_cmpR (op_eqD hr.units) (pv 4) (pe_tup (pa_cons pe_str (pa_cons pe_str pa_nil))) (nomark _))) (by walk_at "blk"))) (fun _ _ _ _ _ => (Eg.peE (pv 4) (by walk_at "blk")))) pa_nil)) rfl))))))), ?_⟩
    refine Eg.w_sig (σ := [some (.ref qa), some x, none, none, none]) rfl ?_
    walk_at "go"
    refine ⟨x, "template", rfl, ?_⟩
    rcases h with ⟨no, q⟩ | ⟨ts, tl, e1, e2, e3, bad, q⟩
    · exact .inl ⟨no, q⟩
    · exact .inr ⟨ts, tl, e1, e2, e3, .inr ⟨bad, q⟩⟩
theorem ok_Template_initX (T : Txt K mg Z) : FnOk P w K mg base (L2.CX P w) 6 Z.a_Template_init Z.d_Template_init ["self", "text"] (fun vs H Q E => sp_Template_init Z.c_Template vs H Q E ∨ sp_Template_initB Z.c_Template Z.c_BadText vs H Q E) := Xc.or (Xc.up (ok_Template_init T)) (ok_Template_initB T)
set_option maxHeartbeats 8000000 in
theorem ok_Template_call (T : Txt K mg Z) : FnOk P w K mg base CX0 10 Z.a_Template_call Z.d_Template_call ["self", "values", "table"] (sp_Template_call Z.c_Template Z.c_Piece) := by
  refine T.F_Template_call.ok sc_Template_call (fun vs H Q E h => ?_) (fun cdv A outer s H vs Q E hr h => ?_)
  · obtain ⟨t, dx, lt, n, va, y, ps, kvs, rfl, _⟩ := h
    rfl
  · obtain ⟨t, dx, lt, n, va, y, ps, kvs, rfl, ht, hva, few, pok, tab, hy, q⟩ := h
    have nd := sc_Template_call.nd
    have cT := T.cl_Template
    have n1 := T.n_Template_text
    refine ⟨_, (pss_one (ps_ret (ClX.pe_cmeth (pe_glob (v := .ref Z.c_Piece) (by rfl) T.g_Piece rfl) T.cr_Piece T.cm_Piece_of ((ok_Piece_of T).raw T.b_Piece_of .nil) (hr.mono (by decide)) pass0 (pa_cons (pe_fld (pv 0) rfl) (pa_cons (pv 1) (pa_cons (pe_ifExp (pt_cmpR Eg.opr_isN (pv 2) pe_non (nomark _)) pe_dnewK (pv 2)) pa_nil)))))), ?_⟩
    refine Eg.w_sig (σ := [some (.ref t), some (.ref va), some y]) rfl ?_
    rcases hy with ⟨da, rfl, hda⟩ | ⟨rfl, rfl⟩
    · walk_at "go"
      refine ⟨rfl, ?_⟩
      walk_at "go"
      rw [if_neg (by simp)]
      walk_at "go"
      exact ⟨va, da, ps, kvs, rfl, hva, hda, few, pok, tab, fun x H' hx p s => q x H' hx p s⟩
    · walk_at "go"
      refine ⟨rfl, ?_⟩
      walk_at "go"
      rw [if_pos (decide_eq_true rfl)]
      walk_at "go"
      intro da hda
      have s1 : Same H (upd H da (.dK [])) := fun c o e => Eg.upd_old e hda
      have h1 : upd H da (.dK []) da = some (.dK []) := upd_same
      generalize upd H da (.dK []) = H1 at s1 h1 ⊢
      walk_at "go"
      exact ⟨va, da, ps, [], rfl, hva.keep (s1 va), h1, few, pok, tab, fun x H' hx p s => q x H' (s1.free hx) (p.back s1) (s1.trans s)⟩
set_option maxHeartbeats 8000000 in
theorem ok_Template_callX (T : Txt K mg Z) : FnOk P w K mg base (L2.CX P w) 10 Z.a_Template_call Z.d_Template_call ["self", "values", "table"] (sp_Template_callB Z) := by
  refine T.F_Template_call.okX sc_Template_call (fun vs H Q E h => ?_) (fun cdv A outer s H vs Q E hr h => ?_)
  · obtain ⟨t, va, y, er, rfl, _⟩ := h
    rfl
  · obtain ⟨t, va, y, er, rfl, ⟨dx, lt, n, l, vals, kvs, ns, ht, hy⟩, q⟩ := h
    have nd := sc_Template_call.nd
    have cT := T.cl_Template
    have n1 := T.n_Template_text
    refine ⟨_, (pss_one (ps_ret (ClX.pe_cmeth (pe_glob (v := .ref Z.c_Piece) (by rfl) T.g_Piece rfl) T.cr_Piece T.cm_Piece_of ((ok_Piece_ofX T).raw T.b_Piece_of .nil) (hr.mono (by decide)) (passes_call (takes_of rfl rfl rfl rfl) (fun _ _ _ _ h => h)) (pa_cons (pe_fld (pv 0) rfl) (pa_cons (pv 1) (pa_cons (pe_ifExp (pt_cmpR Eg.opr_isN (pv 2) pe_non (nomark _)) pe_dnewK (pv 2)) pa_nil)))))), ?_⟩
    refine Eg.w_sig (σ := [some (.ref t), some (.ref va), some y]) rfl ?_
    rcases hy with ⟨da, rfl, hc⟩ | ⟨rfl, hc⟩
    · walk_at "go"
      refine ⟨rfl, ?_⟩
      walk_at "go"
      rw [if_neg (by simp)]
      walk_at "go"
      exact .inr ⟨_, va, da, vals, kvs, ns, er, rfl, hc, q⟩
    · walk_at "go"
      refine ⟨rfl, ?_⟩
      walk_at "go"
      rw [if_pos (decide_eq_true rfl)]
      walk_at "go"
      intro da hda
      have s1 : Same H (upd H da (.dK [])) := fun c o e => Eg.upd_old e hda
      have h1 : upd H da (.dK []) da = some (.dK []) := upd_same
      generalize upd H da (.dK []) = H1 at s1 h1 ⊢
      walk_at "go"
      exact .inr ⟨_, va, da, vals, [], ns, er, rfl, hc da H1 hda h1 s1, q.mv s1⟩
set_option maxHeartbeats 8000000 in
theorem ok_l_raised (T : Txt K mg Z) : FnOk P w K mg base CX0 11 Z.a_l_raised Z.d_l_raised ["_law_template", "_law_values_here", "_law_table_here"] (sp_l_raisedT Z) := by
  refine T.F_l_raised.ok sc_l_raised (fun vs H Q E h => ?_) (fun cdv A outer s H vs Q E hr h => ?_)
  · obtain ⟨t, va, y, er, rfl, _⟩ := h
    rfl
  · obtain ⟨t, va, y, er, rfl, hc, nt, q⟩ := h
    have nd := sc_l_raised.nd
    refine ⟨_, (pss_cons (Ex.ps_try_hds (Wout := fun _ _ _ _ => False) rfl rfl takes0 (fun W pn xe tk po => (pss_one (ps_expr (Co.pe_callOS (pv 0) ⟨T.m_Template_call.at_, T.m_Template_call.fn, T.fi_Template_call⟩ ((ok_Template_callX T).raw T.bp_Template_call_2.choose_spec.2 T.bp_Template_call_2.choose_spec.1) (hr.mono (by decide)) (fun σ => passAt tk σ) (pa_cons (pv 1) (pa_cons (pv 2) pa_nil))))))
  (.as (i := 3) nd rfl rfl (Ex.test_one ⟨by rfl, by decide, .inl T.g_BadValue⟩) (fun a oe cls d pn hz hf hb => (pss_one (ps_ret (pe_tup (pa_cons pe_str (pa_cons (Ex.pe_xg hz hf (pv 3)) pa_nil))))))
  (.as (i := 3) nd rfl rfl (Ex.test_one ⟨by rfl, by decide, .inl T.g_Mismatch⟩) (fun a oe cls d pn hz hf hb => (pss_one (ps_ret (pe_tup (pa_cons pe_str (pa_cons (Ex.pe_xg hz hf (pv 3)) (pa_cons (Ex.pe_xg hz hf (pv 3)) pa_nil)))))))
  (.as (i := 3) nd rfl rfl (Ex.test_one ⟨by rfl, by decide, .inl T.g_NoLabel⟩) (fun a oe cls d pn hz hf hb => (pss_one (ps_ret (pe_tup (pa_cons pe_str (pa_cons (Ex.pe_xg hz hf (pv 3)) pa_nil))))))
  (.as (i := 3) nd rfl rfl (Ex.test_one ⟨by rfl, by decide, .inl T.g_Unused⟩) (fun a oe cls d pn hz hf hb => (pss_one (ps_ret (pe_tup (pa_cons pe_str (pa_cons (Ex.pe_xg hz hf (pv 3)) pa_nil))))))
  .nil)))))
  (pss_one (ps_ret pe_non))), ?_⟩
    refine Eg.w_sig (σ := [some (.ref t), some (.ref va), some y, none]) rfl ?_
    walk_at "go"
    obtain ⟨dx, lt, n, l, vals, kvs, ns, ht, hy⟩ := id hc
    refine Co.c_callSA ht ⟨t, va, y, er, rfl, hc, fun d H1 hd h1 s1 => ?_⟩
    clear hc hy ht
    cases er with
    | text i => exact absurd rfl (nt i)
    | value v =>
      refine Ex.hd_yes (T.xn_BadValue.exm T.s_BadValue_BadValue) fun a ha => ?_
      walk_at "go"
      refine Ex.c_xg T.x_BadValue.xc T.no_BadValue_value h1 rfl ?_
      walk_at "go"
      intro p hp
      exact q p _ (s1.free hp) upd_same fun c o e => Eg.upd_old (s1 _ _ e) hp
    | mism m n =>
      refine Ex.hd_no (T.xn_BadValue.exm T.s_Mismatch_BadValue) ?_
      refine Ex.hd_yes (T.xn_Mismatch.exm T.s_Mismatch_Mismatch) fun a ha => ?_
      walk_at "go"
      refine Ex.c_xg T.x_Mismatch.xc T.no_Mismatch_wanted h1 rfl ?_
      walk_at "go"
      refine Ex.c_xg T.x_Mismatch.xc T.no_Mismatch_got h1 rfl ?_
      walk_at "go"
      intro p hp
      exact q p _ (s1.free hp) upd_same fun c o e => Eg.upd_old (s1 _ _ e) hp
    | label k =>
      refine Ex.hd_no (T.xn_BadValue.exm T.s_NoLabel_BadValue) ?_
      refine Ex.hd_no (T.xn_Mismatch.exm T.s_NoLabel_Mismatch) ?_
      refine Ex.hd_yes (T.xn_NoLabel.exm T.s_NoLabel_NoLabel) fun a ha => ?_
      walk_at "go"
      refine Ex.c_xg T.x_NoLabel.xc T.no_NoLabel_label h1 rfl ?_
      walk_at "go"
      intro p hp
      exact q p _ (s1.free hp) upd_same fun c o e => Eg.upd_old (s1 _ _ e) hp
    | unused z =>
      refine Ex.hd_no (T.xn_BadValue.exm T.s_Unused_BadValue) ?_
      refine Ex.hd_no (T.xn_Mismatch.exm T.s_Unused_Mismatch) ?_
      refine Ex.hd_no (T.xn_NoLabel.exm T.s_Unused_NoLabel) ?_
      refine Ex.hd_yes (T.xn_Unused.exm T.s_Unused_Unused) fun a ha => ?_
      walk_at "go"
      refine Ex.c_xg T.x_Unused.xc T.no_Unused_label h1 rfl ?_
      walk_at "go"
      intro p hp
      exact q p _ (s1.free hp) upd_same fun c o e => Eg.upd_old (s1 _ _ e) hp
set_option maxHeartbeats 8000000 in
theorem ok_l_wrong (T : Txt K mg Z) : FnOk P w K mg base CX0 8 Z.a_l_wrong Z.d_l_wrong ["_law_text_here"] sp_l_wrong := by
  refine T.F_l_wrong.ok sc_l_wrong (fun vs H Q E h => ?_) (fun cdv A outer s H vs Q E hr h => ?_)
  · obtain ⟨x, rfl, _⟩ := h
    rfl
  · obtain ⟨x, rfl, h⟩ := h
    have nd := sc_l_wrong.nd
    refine ⟨_, (pss_cons (Ex.ps_try_hds (Wout := fun _ _ _ _ => False) rfl rfl takes0 (fun W pn xe tk po => (pss_one (ps_expr (Co.pe_makeS T.mk_Template ((ok_Template_initX T).raw T.b_Template_init .nil) (hr.mono (by decide)) (by rfl) T.g_Template (fun σ => passAt tk σ) (pa_cons (pv 0) pa_nil)))))
  (.as (i := 1) nd rfl rfl (Ex.test_one ⟨by rfl, by decide, .inl T.g_BadText⟩) (fun a oe cls d pn hz hf hb => (pss_one (ps_ret (Ex.pe_xg hz hf (pv 1)))))
  .nil))
  (pss_one (ps_ret pe_non))), ?_⟩
    refine Eg.w_sig (σ := [some x, none]) rfl ?_
    walk_at "go"
    intro q dx hq hdx hne
    have hq' : upd (upd H dx (.own q)) q (.ins Z.c_Template dx []) q = some (.ins Z.c_Template dx []) := upd_same
    have sx : Same H (upd (upd H dx (.own q)) q (.ins Z.c_Template dx [])) := fun c o e => Eg.upd_mut (ne_of_none e hq) (Eg.upd_old e hdx)
    generalize upd (upd H dx (.own q)) q (.ins Z.c_Template dx []) = H1 at hq' sx ⊢
    rcases h with ⟨no, q1⟩ | ⟨ts, tl, rfl, el, ok, rfl | bad, q1⟩
    · refine .inr ⟨q, dx, x, rfl, hq', .inl ⟨no.keep sx, fun d H2 hd h2 s2 => ?_⟩⟩
      refine Ex.hd_yes (T.xn_BadText.exm T.s_BadText_BadText) fun a ha => ?_
      walk_at "go"
      refine Ex.c_xg T.x_BadText.xc T.no_BadText_at h2 rfl ?_
      exact q1 H2 (sx.trans s2)
    · rw [List.append_nil] at el ⊢
      have tl := flat_len ts
      refine .inl ⟨q, dx, ts.map tkP, by rw [tkP_tmpl, List.append_nil], hq', ⟨by rw [List.length_map]; omega, by rw [tkP_tmpl]; omega⟩, tkP_gp ok, fun t H2 _ _ _ k2 => ⟨rfl, ?_⟩⟩
      walk_at "go"
      exact q1 H2 fun c o e => k2 c o (sx _ _ e) (ne_of_none e hq)
    · refine .inr ⟨q, dx, _, rfl, hq', .inr ⟨ts, tl, rfl, by omega, ok, bad, fun d H2 hd h2 s2 => ?_⟩⟩
      refine Ex.hd_yes (T.xn_BadText.exm T.s_BadText_BadText) fun a ha => ?_
      walk_at "go"
      refine Ex.c_xg T.x_BadText.xc T.no_BadText_at h2 rfl ?_
      have ne : tl ≠ [] := by
        rintro rfl
        exact bad.elim
      have q1 := q1 H2 (sx.trans s2)
      unfold atV at q1
      rw [if_neg ne] at q1
      exact q1
end
end LW
end

section
local macro_rules | `(tactic| walk_at "tx") => `(tactic| first
  | with_reducible refine Ex.w_methKS ?_
  | with_reducible refine Co.w_makeS ?_
  | with_reducible refine Co.w_callOS ?_
  | with_reducible refine Co.c_callOS ?_
  | ((with_reducible refine' Co.c_callSA ?hs ?_); (case hs => walk_at "hp"))
  | with_reducible refine Ow.w_callO ?_
  | with_reducible refine Ow.c_callO ?_
  | ((with_reducible refine' Ow.c_callA ?hs ?_); (case hs => walk_at "hp"))
  | with_reducible refine Ex.w_callS ?_
  | with_reducible refine Ex.w_rs ?_
  | with_reducible refine Ex.w_xg ?_
  | with_reducible refine Xc.w_cmethS ?_
  | with_reducible refine Xh.w_callH ?_
  | with_reducible refine Xc.c_cmS ?_
  | with_reducible refine Pz.w_star ?_
  | ((with_reducible refine' Pz.c_starL ?hs ?_); (case hs => walk_at "hp"))
  | with_reducible refine Pz.w_mkR ?_
  | ((with_reducible refine' Pz.w_mkVar ?hs ?_); (case hs => exact rfl))
  | with_reducible refine Po.w_iSeq ?_
  | ((with_reducible refine' Po.c_ixA ?hs ?hv ?_); (case hs => assumption); (case hv => walk_at "at"))
  | ((with_reducible refine' Po.c_lenA ?hs ?_); (case hs => assumption)))
namespace LW
open PySem L2 SX Tx Tl Tc Rp
/-! the errors that are due, plain; parts with other values -/
theorem holes_tok : ∀ ps : List Pp, labK (Tc.holes (tokP ps)) = ps.filterMap labP ∧ ((Tc.holes (tokP ps)).filter fun k => k.isEmpty).length = (ps.filterMap valP).length
  | [] => ⟨rfl, rfl⟩
  | .inl l :: r => by
    have h0 : Tc.holes (l.map Tk.ch) = [] := by
      unfold Tc.holes
      refine List.filterMap_eq_nil_iff.mpr fun x hx => ?_
      obtain ⟨c, _, rfl⟩ := List.mem_map.mp hx
      rfl
    have h1 : Tc.holes (tokP (.inl l :: r)) = Tc.holes (tokP r) := by
      show Tc.holes (l.map Tk.ch ++ tokP r) = _
      unfold Tc.holes at h0 ⊢
      rw [List.filterMap_append, h0, List.nil_append]
    rw [h1]
    exact holes_tok r
  | .inr ([], v) :: r => by
    obtain ⟨a, b⟩ := holes_tok r
    exact ⟨a, congrArg (· + 1) b⟩
  | .inr (c :: k, v) :: r => by
    obtain ⟨a, b⟩ := holes_tok r
    exact ⟨congrArg ((c :: k) :: ·) a, b⟩
/-- a table with texts as names -/
def kE (es : List (List Nat × V)) : List (Key × V) := es.map fun e => (.inr (S e.1), e.2)
theorem kE_keys (es : List (List Nat × V)) : (kE es).map (·.1) = (es.map (·.1)).map fun k => (.inr (S k) : Key) := by
  unfold kE
  rw [List.map_map, List.map_map]
  rfl
theorem S_inj_map {ks : List (List Nat)} (nd : ks.Nodup) : (ks.map fun k => (.inr (S k) : Key)).Nodup := by
  refine List.pairwise_map.mpr (nd.imp fun h e => h ?_)
  exact S_inj (Sum.inr.inj e)
theorem kE_nd {es : List (List Nat × V)} (nd : (es.map (·.1)).Nodup) : ((kE es).map (·.1)).Nodup := by
  rw [kE_keys]
  exact S_inj_map nd
theorem kE_val {es : List (List Nat × V)} (nd : (es.map (·.1)).Nodup) {e : List Nat × V} (h : e ∈ es) : valV (kE es) (.inr (S e.1)) = some e.2 :=
  val_mem (kE_nd nd) (List.mem_map.mpr ⟨e, h, rfl⟩)
theorem kE_of : ∀ {kvs : List (Key × V)}, (∀ y ∈ kvs, ∃ k, y.1 = .inr (S k)) → ∃ es, kvs = kE es
  | [], _ => ⟨[], rfl⟩
  | y :: r, h => by
    obtain ⟨es, e⟩ := kE_of (kvs := r) fun z hz => h z (.tail _ hz)
    obtain ⟨k, hk⟩ := h y List.mem_cons_self
    refine ⟨(k, y.2) :: es, ?_⟩
    rw [e]
    show _ = (_, _) :: kE es
    rw [← hk]
theorem nd_of_kE {es : List (List Nat × V)} (h : ((kE es).map (·.1)).Nodup) : (es.map (·.1)).Nodup := by
  rw [kE_keys] at h
  exact (List.pairwise_map.mp h).imp fun hab e => hab (by rw [e])
theorem dv_okv {H : Hp} {v : V} (h : DV v) : OkV H v := (Vl.ok (X := []) h).cases
theorem dv_valB {v : V} (h : DV v) : valB v = true := (dv_okv (H := fun _ => none) h).elim (fun z => z.2) fun z => by
  have e := z.1
  cases h <;> cases e <;> contradiction
/-- arguments of a call -/
theorem args_of {H : Hp} {va da : Addr} {vals : List V} {es : List (List Nat × V)} (hva : H va = some (.lst vals)) (hda : H da = some (.dK (kE es))) (few : es.length < 64) (vl : vals.length < 1000) (hv : ∀ v ∈ vals, OkV H v) (hk : ∀ e ∈ es, DV e.2)
    (nd : (es.map (·.1)).Nodup) : ∃ ns : List Str, Args H va da vals (kE es) ns ∧ (∀ z, z ∈ ns ↔ ∃ e ∈ es, S e.1 = z) := by
  obtain ⟨ns, pm, srt, _⟩ := ex_sorted (es.map fun e => S e.1)
  have hm : ∀ z, z ∈ ns ↔ ∃ e ∈ es, S e.1 = z := fun z => by
    rw [pm.mem_iff, List.mem_map]
  refine ⟨ns, ⟨.inl hva, hda, ⟨es.map fun e => S e.1, by rw [kE_keys, List.map_map, List.map_map]; rfl, pm⟩, srt, by unfold kE; rw [List.length_map]; exact few, vl, hv, fun z hz => ?_⟩, hm⟩
  obtain ⟨e, he, rfl⟩ := (hm z).mp hz
  exact ⟨e.2, kE_val nd he, dv_okv (hk e he)⟩
theorem tab_dv {es : List (List Nat × V)} {ns : List Str} (nd : (es.map (·.1)).Nodup) (hk : ∀ e ∈ es, DV e.2) (hm : ∀ z, z ∈ ns ↔ ∃ e ∈ es, S e.1 = z) : ∀ v ∈ ns.map (tabV (kE es)), valB v = true := fun v hv => by
  obtain ⟨z, hz, rfl⟩ := List.mem_map.mp hv
  obtain ⟨e, he, rfl⟩ := (hm z).mp hz
  unfold tabV
  rw [kE_val nd he]
  exact dv_valB (hk e he)
theorem find_all {α : Type} {p : α → Bool} {l : List α} (h : ∀ x ∈ l, p x = false) : l.find? p = none := List.find?_eq_none.mpr fun x hx => by
  rw [h x hx]
  exact Bool.false_ne_true
theorem nv_all {vals : List V} {ns : List Str} {tab : Str → V} (h1 : ∀ v ∈ vals, valB v = true) (h2 : ∀ v ∈ ns.map tab, valB v = true) : (vals ++ ns.map tab).find? (fun v => !valB v) = none := find_all fun v hv => by
  rcases List.mem_append.mp hv with hv | hv
  · rw [h1 v hv]; rfl
  · rw [h2 v hv]; rfl
theorem er_value {ks : List (List Nat)} {vals : List V} {od : V} {ns : List Str} {tab : Str → V} (h1 : ∀ v ∈ vals, valB v = true) (ho : valB od = false) : erOf ks (vals ++ [od]) ns tab = some (.value od) := by
  refine erOf_val ?_
  rw [List.append_assoc, List.find?_append, find_all fun v hv => by rw [h1 v hv]; rfl, Option.none_or]
  show List.find? _ (od :: ([] ++ ns.map tab)) = _
  rw [List.find?_cons, ho]
  rfl
theorem erOf_nt {ks : List (List Nat)} {vals : List V} {ns : List Str} {tab : Str → V} {er : Er} (h : erOf ks vals ns tab = some er) (i : Int) : er ≠ .text i := by
  rintro rfl
  unfold erOf at h
  repeat (split at h <;> try cases h)
/-- the first label that no name is -/
theorem er_label {ks : List (List Nat)} {vals : List V} {es : List (List Nat × V)} {ns : List Str} {l : List Nat} (nd : (es.map (·.1)).Nodup) (hk : ∀ e ∈ es, DV e.2) (hm : ∀ z, z ∈ ns ↔ ∃ e ∈ es, S e.1 = z) (h1 : ∀ v ∈ vals, valB v = true)
    (hp : (ks.filter fun k => k.isEmpty).length = vals.length) (hl : (labK ks).find? (fun k => !decide (k ∈ es.map (·.1))) = some l) : erOf ks vals ns (tabV (kE es)) = some (.label l) := by
  refine erOf_lab (nv_all h1 (tab_dv nd hk hm)) hp ?_
  rw [← hl]
  congr 1
  funext k
  congr 1
  refine decide_eq_decide.mpr ((hm _).trans ⟨fun ⟨e, he, ee⟩ => List.mem_map.mpr ⟨e, he, S_inj ee⟩, fun h => ?_⟩)
  obtain ⟨e, he, rfl⟩ := List.mem_map.mp h
  exact ⟨e, he, rfl⟩
theorem er_unused {ks : List (List Nat)} {vals : List V} {es : List (List Nat × V)} {ns : List Str} {a : List Nat} (nd : (es.map (·.1)).Nodup) (hk : ∀ e ∈ es, DV e.2) (hm : ∀ z, z ∈ ns ↔ ∃ e ∈ es, S e.1 = z) (h1 : ∀ v ∈ vals, valB v = true)
    (hp : (ks.filter fun k => k.isEmpty).length = vals.length) (hl : ∀ k ∈ labK ks, k ∈ es.map (·.1)) (ha : a ∈ es.map (·.1)) (hna : a ∉ labK ks) (ho : ∀ k ∈ es.map (·.1), k ≠ a → k ∈ labK ks) : erOf ks vals ns (tabV (kE es)) = some (.unused (S a)) := by
  refine erOf_un (nv_all h1 (tab_dv nd hk hm)) hp (find_all fun k hk' => ?_) ?_
  · obtain ⟨e, he, rfl⟩ := List.mem_map.mp (hl k hk')
    rw [decide_eq_true ((hm _).mpr ⟨e, he, rfl⟩)]
    rfl
  · cases e1 : ns.find? (fun z => !decide (z ∈ (labK ks).map S)) with
    | none =>
      obtain ⟨e, he, rfl⟩ := List.mem_map.mp ha
      have := List.find?_eq_none.mp e1 _ ((hm _).mpr ⟨e, he, rfl⟩)
      refine absurd ?_ this
      rw [decide_eq_false fun z => ?_]
      · rfl
      · obtain ⟨k, hk', ek⟩ := List.mem_map.mp z
        exact hna (by rw [← S_inj ek]; exact hk')
    | some z =>
      have h2 := List.find?_some e1
      obtain ⟨e, he, rfl⟩ := (hm z).mp (List.mem_of_find?_eq_some e1)
      by_cases ee : e.1 = a
      · rw [ee]
      · have := ho e.1 (List.mem_map.mpr ⟨e, he, rfl⟩) ee
        rw [decide_eq_true (List.mem_map.mpr ⟨_, this, rfl⟩)] at h2
        cases h2
/-- a refused call as the template tells it -/
theorem case_er {H : Hp} {va da : Addr} {vals : List V} {es : List (List Nat × V)} {ns : List Str} {ps : List Pp} {er : Er} (a : Args H va da vals (kE es) ns) (nd : (es.map (·.1)).Nodup) (hl : (tmpl ps).length < 5000) (gp : ∀ p ∈ ps, Gp p)
    (e : erOf (Tc.holes (tokP ps)) vals ns (tabV (kE es)) = some er) : CaseAt H (.str (S (tmpl ps))) va da vals (kE es) ns (some er) :=
  ⟨a, kE_nd nd, .inr ⟨tokP ps, [], by rw [List.append_nil, flat_tokP], by rw [List.append_nil, flat_tokP]; exact hl, (fun z => nomatch z), tok_ok fun p hp => (gp p hp).ok, .inr ⟨rfl, e.symm⟩⟩⟩
/-! parts with other values -/
def strip : Pp → Pp
  | .inl l => .inl l
  | .inr (k, _) => .inr (k, .non)
theorem strip_tmpl : ∀ ps : List Pp, tmpl (ps.map strip) = tmpl ps
  | [] => rfl
  | .inl l :: r => congrArg (l ++ ·) (strip_tmpl r)
  | .inr (k, v) :: r => congrArg ((123 :: (k ++ [125])) ++ ·) (strip_tmpl r)
theorem strip_lab : ∀ ps : List Pp, (ps.map strip).filterMap labP = ps.filterMap labP
  | [] => rfl
  | .inl l :: r => strip_lab r
  | .inr ([], v) :: r => strip_lab r
  | .inr (c :: k, v) :: r => congrArg ((c :: k) :: ·) (strip_lab r)
theorem strip_vl : ∀ ps : List Pp, ((ps.map strip).filterMap valP).length = (ps.filterMap valP).length
  | [] => rfl
  | .inl l :: r => strip_vl r
  | .inr ([], v) :: r => congrArg (· + 1) (strip_vl r)
  | .inr (c :: k, v) :: r => strip_vl r
theorem strip_inl {q : Pp} {l : List Nat} (h : strip q = .inl l) : q = .inl l := by
  cases q with
  | inl m => exact h
  | inr x => cases h
theorem strip_inr {q : Pp} {x : List Nat × V} (h : strip q = strip (.inr x)) : ∃ y, q = .inr y := by
  cases q with
  | inl m => cases h
  | inr y => exact ⟨y, rfl⟩
theorem Nm.strip {ps : List Pp} (h : Nm ps) : ∀ {qs : List Pp}, qs.map LW.strip = ps.map LW.strip → Nm qs := by
  induction h with
  | nil =>
    intro qs e
    rw [List.map_eq_nil_iff.mp e]
    exact .nil
  | @hole a h x ih =>
    intro qs e
    rw [List.map_append] at e
    obtain ⟨q1, q2, rfl, e1, e2⟩ := List.map_eq_append_iff.mp e
    obtain ⟨z, r, rfl, ez, er⟩ := List.map_eq_cons_iff.mp e2
    rw [List.map_eq_nil_iff.mp er]
    obtain ⟨y, rfl⟩ := strip_inr ez
    exact .hole (ih e1) y
  | @say a h l hl hn ih =>
    intro qs e
    rw [List.map_append] at e
    obtain ⟨q1, q2, rfl, e1, e2⟩ := List.map_eq_append_iff.mp e
    obtain ⟨z, r, rfl, ez, er⟩ := List.map_eq_cons_iff.mp e2
    rw [List.map_eq_nil_iff.mp er]
    rw [strip_inl ez]
    refine .say (ih e1) hl fun m hm => ?_
    have := congrArg List.getLast? e1
    rw [List.getLast?_map, List.getLast?_map, hm] at this
    cases eg : a.getLast? with
    | none => rw [eg] at this; cases this
    | some u =>
      rw [eg] at this
      have := strip_inl (Option.some.inj this).symm
      exact hn m (by rw [eg, this])
theorem shp_merge {ps qs : List Pp} (h : mergeP ps = ps) (e : qs.map strip = ps.map strip) : mergeP qs = qs := by
  have n := mergeP_nm ps
  rw [h] at n
  exact (n.strip e).merge
theorem shp_tmpl {ps qs : List Pp} (e : qs.map strip = ps.map strip) : tmpl qs = tmpl ps := by rw [← strip_tmpl qs, e, strip_tmpl]
theorem shp_lab {ps qs : List Pp} (e : qs.map strip = ps.map strip) : qs.filterMap labP = ps.filterMap labP := by rw [← strip_lab qs, e, strip_lab]
theorem shp_vl {ps qs : List Pp} (e : qs.map strip = ps.map strip) : (qs.filterMap valP).length = (ps.filterMap valP).length := by rw [← strip_vl qs, e, strip_vl]
theorem shp_len {ps qs : List Pp} (e : qs.map strip = ps.map strip) : qs.length = ps.length := by
  have := congrArg List.length e
  rwa [List.length_map, List.length_map] at this
def TabQ (kvs : List (Key × V)) (qs : List Pp) : Prop := ∀ k v, k ≠ [] → Sum.inr (k, v) ∈ qs → valV kvs (.inr (S k)) = some v
theorem TabQ.one {kvs : List (Key × V)} {qs : List Pp} (h : TabQ kvs qs) : One qs := fun k v w hk hv hw => by
  have a := h k v hk hv
  rw [h k w hk hw] at a
  exact (Option.some.inj a).symm
def setdEnd (a : Addr) (y : V) (Q : VK) (z : V) (H3 : Hp) : Prop := ∃ (kvs : List (Key × V)) (k : Key), H3 a = some (.dK kvs) ∧ y = kV k ∧ kvs.length < sizeLine ∧ (∀ v, valV kvs k = some v → Q v H3) ∧ (valV kvs k = none → Q z (upd H3 a (.dK (putK kvs k z))))
def setdMid (a : Addr) (tx : TE) (σ : L2.St) (Q : VK) (y : V) (H2 : Hp) : Prop := tx σ H2 (setdEnd a y Q)
theorem w_setd {i : Nat} {ty tx : TE} {σ : L2.St} {H : Hp} {Q : VK} {a : Addr} {kvs : List (Key × V)} (hv : σ[i]? = some (some (.ref a))) (hd : H a = some (.dK kvs)) (h : ty σ H (setdMid a tx σ Q)) : tDSetd (tVar i) ty tx σ H Q :=
  ⟨_, hv, a, rfl, .inl ⟨kvs, Rd.of hd⟩, h⟩
theorem c_setdMid {tx : TE} {σ : L2.St} {H : Hp} {Q : VK} {a : Addr} {y : V} (h : tx σ H (setdEnd a y Q)) : setdMid a tx σ Q y H := h
theorem c_setdEnd {H : Hp} {Q : VK} {a : Addr} {z : V} {kvs : List (Key × V)} {k : Key} (hd : H a = some (.dK kvs)) (hl : kvs.length < 1000) (h1 : ∀ v, valV kvs k = some v → Q v H) (h2 : valV kvs k = none → Q z (upd H a (.dK (putK kvs k z)))) : setdEnd a (kV k) Q z H :=
  ⟨kvs, k, hd, rfl, by rw [sizeLine_eq]; omega, h1, h2⟩
def sp_l_valued : Sp := fun vs H Q _ => ∃ (c b : Addr) (ps : List Pp), vs = [.ref c, .ref b] ∧ CellsAt H c ps ∧ BagB H b ∧ (∀ p ∈ ps, Gp p) ∧ mergeP ps = ps ∧ ps.length ≤ 40 ∧
  ∀ (p : Addr) (qs : List Pp) (H' : Hp), H p = none → p ≠ b → CellsAt H' p qs → (∀ p ∈ qs, Gp p) → One qs → mergeP qs = qs → qs.map strip = ps.map strip → BagB H' b → KeptB b H H' → Q (.ref p) H'
section
variable {P : Program} {w : World} {K : PySem.W.Frag} {mg : Str → Option Value} {base : Heap} {Z : Ad}
set_option maxHeartbeats 8000000 in
theorem ok_l_valued (T : Txt K mg Z) : FnOk P w K mg base CX0 4 Z.a_l_valued Z.d_l_valued ["_law_parts_here", "_law_bag_here"] sp_l_valued := by
  refine T.F_l_valued.ok sc_l_valued (fun vs H Q E h => ?_) (fun cdv A outer s H vs Q E hr h => ?_)
  · obtain ⟨c, b, ps, rfl, _⟩ := h
    rfl
  · obtain ⟨c, b, ps, rfl, hc, hb, gp, mp, pl, q⟩ := h
    have nd := sc_l_valued.nd
    have hu := hu_of hr
    refine ⟨_, (pss_cons (ps_par (i := 2) (j := 3) (by rfl) nd rfl rfl (by decide) rfl rfl (pa_cons pe_dnewK (pa_cons (pe_lst pa_nil) pa_nil)) (by rfl))
  (pss_cons (ps_for PassesOwn.never rfl (pi_list (pv 0)) (pg_name (i := 4) nd rfl (Or.inl rfl))
  (pss_cons (ps_set (i := 5) nd rfl (Or.inl rfl) (pe_call (ok_l_value T) (hr.mono (by decide)) (by rfl) T.g_l_value T.F_l_value.kp T.b_l_value .nil pass0 (pa_cons (pv 1) pa_nil)))
  (C8.pss_cut (ps_if (PW.pt (pw_and (pt_cmpR op_eq (pe_ix ix_tup (pv 4) pe_int (fun _ _ => rfl)) pe_str (nomark _)) (pw_and1 (pt_cmpR op_ne (pe_ix ix_tup (pv 4) pe_int (fun _ _ => rfl)) pe_str (nomark _)))))
  (pss_one (ps_set (i := 5) nd rfl (Or.inl rfl) (pe_dsetd (pv 2) (pe_ix ix_tup (pv 4) pe_int (fun _ _ => rfl)) (pv 5) ⟨rfl, rfl, rfl, rfl⟩)))
  pss_nil)
  (pss_one (ps_expr (pe_bm PySem.F.plainAttrs_list PySem.F.slot_list_append PySem.F.type_list_append mt_append (pv 3) (pa_cons (pe_ifExp (pt_cmpR op_eq (pe_ix ix_tup (pv 4) pe_int (fun _ _ => rfl)) pe_str (nomark _)) (pv 4) (pe_tup (pa_cons pe_str (pa_cons (pe_ix ix_tup (pv 4) pe_int (fun _ _ => rfl)) (pa_cons (pv 5) pa_nil))))) pa_nil)))))))
  (pss_one (ps_ret (pv 3))))), ?_⟩
    refine Eg.w_sig (σ := [some (.ref c), some (.ref b), none, none, none, none]) rfl ?_
    walk_at "go"
    intro d hd
    have hdb := hb.ne hd
    have s1 : Same H (upd H d (.dK [])) := fun c o e => Eg.upd_old e hd
    have h1d : upd H d (.dK []) d = some (.dK []) := upd_same
    generalize upd H d (.dK []) = H1 at s1 h1d ⊢
    walk_at "go"
    intro f hf
    have hfb := (hb.keep s1).ne hf
    have f0 : H f = none := s1.free hf
    have fd : f ≠ d := (ne_of_none h1d hf).symm
    have s2 : Same H1 (upd H1 f (.lst [])) := fun c o e => Eg.upd_old e hf
    have h2f : upd H1 f (.lst []) f = some (.lst []) := upd_same
    generalize upd H1 f (.lst []) = H2 at s2 h2f ⊢
    have h2d := s2 _ _ h1d
    have hb2 := hb.keep (s1.trans s2)
    have hc2 := hc.keep (s1.trans s2)
    obtain ⟨ys, h2c, py⟩ := hc2
    have yl := py.len
    rw [List.length_map] at yl
    walk_at "go"
    have cb : c ≠ b := by
      rintro rfl
      obtain ⟨dd, mm, e, _⟩ := hb2
      rw [h2c] at e
      cases e
      cases hps : ps with
      | nil =>
        rw [hps] at yl
        cases yl
      | cons p r =>
        rw [hps] at py
        cases py with
        | cons hh _ =>
          obtain ⟨_, e, _⟩ := hh
          cases e
    have cf : c ≠ f := fun z => by
      rw [z] at hc
      obtain ⟨_, e, _⟩ := hc
      rw [e] at f0
      cases f0
    have k2 : KeptB b H H2 := .of (s1.trans s2)
    clear hc
    refine for_list (xs := ys) (fun j σ' H' => ∃ (kvs : List (Key × V)) (qs : List Pp) (zs : List V) (v4 v5 : Option V), σ' = [some (.ref c), some (.ref b), some (.ref d), some (.ref f), v4, v5] ∧ H' d = some (.dK kvs) ∧ kvs.length ≤ j ∧ (∀ k v, valV kvs k = some v → DV v) ∧ H' f = some (.lst zs) ∧ PcsAt H' zs (qs.map pp) ∧ (∀ p ∈ qs, Gp p) ∧ TabQ kvs qs ∧ qs.map strip = (ps.take j).map strip ∧ H' c = some (.lst ys) ∧ PcsAt H' ys (ps.map pp) ∧ BagB H' b ∧ KeptB b H H')
      ⟨[], [], [], none, none, rfl, h2d, Nat.le_refl _, (fun _ _ z => nomatch z), h2f, .nil, (fun _ z => nomatch z), (fun _ _ _ z => nomatch z), rfl, h2c, py, hb2, k2⟩ ?_ ?_ ?_
    · rintro j _ H' _ ⟨kvs, qs, zs, v4, v5, rfl, _, _, _, _, _, _, _, _, hc', _⟩
      exact SqL.of hc'
    · rintro j x _ H3 hx ⟨kvs, qs, zs, v4, v5, rfl, h3d, kl, kd, h3f, pz, gq, tq, sh, h3c, py3, hb3, k3⟩
      obtain ⟨pc, t, hpc, rfl, ht⟩ := py3.get hx
      rw [List.getElem?_map] at hpc
      obtain ⟨p, hp, rfl⟩ := Option.map_eq_some_iff.mp hpc
      obtain ⟨hlt, he⟩ := List.getElem?_eq_some_iff.mp hp
      have tk : ps.take (j + 1) = ps.take j ++ [p] := by rw [List.take_succ_eq_append_getElem hlt, he]
      have gpp := gp p (List.mem_of_getElem? hp)
      have ql : qs.length = j := by
        have := congrArg List.length sh
        rw [List.length_map, List.length_map, List.length_take] at this
        omega
      have zl := pz.len
      rw [List.length_map] at zl
      have tb : t ≠ b := tup_ne hb3 ht
      have td : t ≠ d := ne_of ht h3d (fun z => nomatch z)
      have tf : t ≠ f := ne_of ht h3f (fun z => nomatch z)
      walk_at "go"
      refine ⟨b, rfl, hb3, fun v H4 hv hb4 k4 => ?_⟩
      have h4t := k4 _ _ ht tb
      have h4d := k4 _ _ h3d hdb
      have h4f := k4 _ _ h3f hfb
      have h4c := k4 _ _ h3c cb
      have pz4 := pcs_keptB hb3 k4 pz
      have py4 := pcs_keptB hb3 k4 py3
      have k04 := k3.trans k4
      walk_at "go"
      refine ⟨fun σ' H' => ∃ (v' : V) (kvs' : List (Key × V)), σ' = [some (.ref c), some (.ref b), some (.ref d), some (.ref f), some (.ref t), some v'] ∧ DV v' ∧ H' d = some (.dK kvs') ∧ kvs'.length ≤ j + 1 ∧ (∀ k v, valV kvs' k = some v → DV v) ∧ TabQ kvs' qs ∧ (∀ k w, p = .inr (k, w) → k ≠ [] → valV kvs' (.inr (S k)) = some v') ∧ (∀ c' o, H4 c' = some o → c' ≠ d → H' c' = some o) ∧ BagB H' b, ?_, ?_⟩
      · cases p with
        | inl l =>
          have h4t : H4 t = some (.tup [.str "say", .str (S l)]) := h4t
          walk_at "go"
          rw [d_sh']
          walk_at "go"
          exact ⟨v, kvs, rfl, hv, h4d, by omega, kd, tq, (fun _ _ z => nomatch z), (fun _ _ e _ => e), hb4⟩
        | inr x =>
          obtain ⟨k, w0⟩ := x
          have h4t : H4 t = some (.tup [.str "hole", .str (S k), w0]) := h4t
          walk_at "go"
          rw [decide_eq_true (rfl : V.str "hole" = V.str "hole")]
          walk_at "go"
          rw [str_emp]
          by_cases hk : k = []
          · rw [decide_eq_true hk]
            walk_at "go"
            exact ⟨v, kvs, rfl, hv, h4d, by omega, kd, tq, fun k' w' e n => by cases e; exact absurd hk n, (fun _ _ e _ => e), hb4⟩
          · rw [decide_eq_false hk]
            walk_at "go"
            refine w_setd rfl h4d ?_
            walk_at "go"
            refine c_setdMid ?_
            walk_at "go"
            refine c_setdEnd (k := .inr (S k)) h4d (by omega) (fun u hu' => ?_) fun hu' => ?_
            · walk_at "go"
              exact ⟨u, kvs, rfl, kd _ _ hu', h4d, by omega, kd, tq, fun k' w' e n => by cases e; exact hu', (fun _ _ e _ => e), hb4⟩
            · walk_at "go"
              have nk : (.inr (S k) : Key) ∉ kvs.map (·.1) := fun z => by
                obtain ⟨u, e⟩ := val_some z
                rw [e] at hu'
                cases hu'
              refine ⟨v, putK kvs (.inr (S k)) v, rfl, hv, upd_same, by rw [putK_new nk, List.length_append]; exact Nat.succ_le_succ kl, fun k' u e => ?_, fun k' u n e => ?_, fun k' w' e n => by cases e; rw [valV_put, if_pos rfl], fun c' o e n => Eg.upd_mut n e, hb4.to (upd_ne hdb.symm)⟩
              · rw [valV_put] at e
                split at e
                · cases e
                  exact hv
                · exact kd _ _ e
              · rw [valV_put]
                split
                · rename_i ee
                  have := tq k' u n e
                  rw [ee, hu'] at this
                  cases this
                · exact tq k' u n e
      rintro _ H5 ⟨v', kvs', rfl, hv', h5d, kl', kd', tq', hval, k5, hb5⟩
      have h5f := k5 _ _ h4f fd
      have h5t := k5 _ _ h4t td
      have h5c := k5 _ _ h4c (fun z => ne_of h4c h4d (fun z => nomatch z) z)
      have pz5 : PcsAt H5 zs (qs.map pp) := pz4.same fun b' zs' e => k5 _ _ e (ne_of e h4d (fun z => nomatch z))
      have py5 : PcsAt H5 ys (ps.map pp) := py4.same fun b' zs' e => k5 _ _ e (ne_of e h4d (fun z => nomatch z))
      have k05 : KeptB b H H5 := fun c' o e n => k5 _ _ (k04 c' o e n) (ne_of_none e hd)
      have fin : ∀ (H6 : Hp) (t' : Addr) (q' : Pp), Same H5 H6 → H6 t' = some (.tup (pp q').vs) → Gp q' → strip q' = strip p → TabQ kvs' (qs ++ [q']) → ∃ (kvs : List (Key × V)) (qs : List Pp) (zs1 : List V) (v4 v5 : Option V), ([some (.ref c), some (.ref b), some (.ref d), some (.ref f), some (.ref t), some v'] : L2.St) = [some (.ref c), some (.ref b), some (.ref d), some (.ref f), v4, v5] ∧ upd H6 f (.lst (zs ++ [.ref t'])) d = some (.dK kvs) ∧ kvs.length ≤ j + 1 ∧ (∀ k v, valV kvs k = some v → DV v) ∧ upd H6 f (.lst (zs ++ [.ref t'])) f = some (.lst zs1) ∧ PcsAt (upd H6 f (.lst (zs ++ [.ref t']))) zs1 (qs.map pp) ∧ (∀ p ∈ qs, Gp p) ∧ TabQ kvs qs ∧ qs.map strip = (ps.take (j + 1)).map strip ∧ upd H6 f (.lst (zs ++ [.ref t'])) c = some (.lst ys) ∧ PcsAt (upd H6 f (.lst (zs ++ [.ref t']))) ys (ps.map pp) ∧ BagB (upd H6 f (.lst (zs ++ [.ref t']))) b ∧ KeptB b H (upd H6 f (.lst (zs ++ [.ref t']))) := by
        intro H6 t' q' s6 h6t gq' eq' tq6
        have h6f := s6 _ _ h5f
        refine ⟨kvs', qs ++ [q'], _, _, _, rfl, Eg.upd_mut fd.symm (s6 _ _ h5d), kl', kd', upd_same, ?_, fun x hx => ?_, tq6, ?_, Eg.upd_mut cf (s6 _ _ h5c), py5.same fun b' zs' e => Eg.upd_mut (ne_of e h5f (fun z => nomatch z)) (s6 _ _ e), (hb5.keep s6).to (upd_ne hfb.symm), fun c' o e n => Eg.upd_mut (ne_of_none e f0) (s6 _ _ (k05 c' o e n))⟩
        · rw [List.map_append]
          exact PcsAt.app (pz5.same fun b' zs' e => Eg.upd_mut (ne_of e h5f (fun z => nomatch z)) (s6 _ _ e)) (PcsAt.one (p := pp q') (Eg.upd_mut (ne_of h6t h6f (fun z => nomatch z)) h6t))
        · rcases List.mem_append.mp hx with hx | hx
          · exact gq x hx
          · rw [List.mem_singleton.mp hx]
            exact gq'
        · rw [tk, List.map_append, List.map_append, sh]
          show _ ++ [strip q'] = _ ++ [strip p]
          rw [eq']
      cases p with
      | inl l =>
        have h5t : H5 t = some (.tup [.str "say", .str (S l)]) := h5t
        walk_at "go"
        rw [decide_eq_true (rfl : V.str "say" = V.str "say")]
        walk_at "go"
        exact fin H5 t (.inl l) (Same.refl _) h5t gpp rfl fun k' u n e => by
          rcases List.mem_append.mp e with e | e
          · exact tq' k' u n e
          · cases List.mem_singleton.mp e
      | inr x =>
        obtain ⟨k, w0⟩ := x
        have h5t : H5 t = some (.tup [.str "hole", .str (S k), w0]) := h5t
        walk_at "go"
        rw [decide_eq_false (show ¬ V.str "hole" = V.str "say" from fun z => absurd (V.str.inj z) (by decide +kernel))]
        walk_at "go"
        intro u hu'
        have h6u : upd H5 u (.tup [.str "hole", .str (S k), v']) u = some (.tup (pp (.inr (k, v'))).vs) := upd_same
        have s6 : Same H5 (upd H5 u (.tup [.str "hole", .str (S k), v'])) := fun c o e => Eg.upd_old e hu'
        generalize upd H5 u (.tup [.str "hole", .str (S k), v']) = H6 at h6u s6 ⊢
        have h6f := s6 _ _ h5f
        walk_at "go"
        exact fin H6 u (.inr (k, v')) s6 h6u ⟨gpp.1, gpp.2.1, hv'⟩ rfl fun k' w' n e => by
          rcases List.mem_append.mp e with e | e
          · exact tq' k' w' n e
          · cases List.mem_singleton.mp e
            exact hval k w0 rfl n
    · rintro _ H' ⟨kvs, qs, zs, v4, v5, rfl, h3d, kl, kd, h3f, pz, gq, tq, sh, h3c, py3, hb3, k3⟩
      rw [yl, List.take_length] at sh
      walk_at "go"
      exact q f qs H' f0 hfb ⟨zs, h3f, pz⟩ gq tq.one (shp_merge mp sh) sh hb3 k3
end
end LW
end

section
local macro_rules | `(tactic| walk_at "tx") => `(tactic| first
  | with_reducible refine Ex.w_methKS ?_
  | with_reducible refine Co.w_makeS ?_
  | with_reducible refine Co.w_callOS ?_
  | with_reducible refine Co.c_callOS ?_
  | ((with_reducible refine' Co.c_callSA ?hs ?_); (case hs => walk_at "hp"))
  | with_reducible refine Ow.w_callO ?_
  | with_reducible refine Ow.c_callO ?_
  | ((with_reducible refine' Ow.c_callA ?hs ?_); (case hs => walk_at "hp"))
  | with_reducible refine Ex.w_callS ?_
  | with_reducible refine Ex.w_rs ?_
  | with_reducible refine Ex.w_xg ?_
  | with_reducible refine Xc.w_cmethS ?_
  | with_reducible refine Xh.w_callH ?_
  | with_reducible refine Xc.c_cmS ?_
  | with_reducible refine Pz.w_star ?_
  | ((with_reducible refine' Pz.c_starL ?hs ?_); (case hs => walk_at "hp"))
  | with_reducible refine Pz.w_mkR ?_
  | ((with_reducible refine' Pz.w_mkVar ?hs ?_); (case hs => exact rfl))
  | with_reducible refine Po.w_iSeq ?_
  | ((with_reducible refine' Po.c_ixA ?hs ?hv ?_); (case hs => assumption); (case hv => walk_at "at"))
  | ((with_reducible refine' Po.c_lenA ?hs ?_); (case hs => assumption)))
namespace LW
open PySem L2 SX Tx Tl Tc Rp
/-! the law's refused calls -/
theorem uniq_head : ∀ (r acc : List Key), acc ≠ [] → (r.foldl add1 acc).head? = acc.head?
  | [], acc, _ => rfl
  | k :: r, acc, h => by
    show (r.foldl add1 (add1 acc k)).head? = _
    have e : (add1 acc k).head? = acc.head? ∧ add1 acc k ≠ [] := by
      unfold add1
      split
      · exact ⟨rfl, h⟩
      · cases acc with
        | nil => exact absurd rfl h
        | cons a r => exact ⟨rfl, fun z => nomatch z⟩
    rw [uniq_head r _ e.2, e.1]
/-- the labels as texts -/
theorem labs_of (qs : List Pp) : ∃ ls : List (List Nat), labsT qs = ls.map (fun k => (.inr (S k) : Key)) ∧ ls.Nodup ∧ (∀ k, k ∈ ls ↔ k ∈ qs.filterMap labP) ∧ ls.head? = (qs.filterMap labP).head? := by
  have sub : ∀ x ∈ labsT qs, ∃ k : List Nat, x = .inr (S k) := fun x hx => by
    have := uniq_mem.mp hx
    obtain ⟨k, _, e⟩ := List.mem_map.mp this
    exact ⟨k, e.symm⟩
  have lift : ∀ xs : List Key, (∀ x ∈ xs, ∃ k : List Nat, x = .inr (S k)) → ∃ ls : List (List Nat), xs = ls.map (fun k => (.inr (S k) : Key)) := by
    intro xs
    induction xs with
    | nil => exact fun _ => ⟨[], rfl⟩
    | cons x r ih =>
      intro h
      obtain ⟨k, rfl⟩ := h x List.mem_cons_self
      obtain ⟨ls, rfl⟩ := ih fun y hy => h y (.tail _ hy)
      exact ⟨k :: ls, rfl⟩
  obtain ⟨ls, e⟩ := lift _ sub
  have nd : (labsT qs).Nodup := uniq_nodup _
  rw [e] at nd
  refine ⟨ls, e, (List.pairwise_map.mp nd).imp fun hab z => hab (by rw [z]), fun k => ?_, ?_⟩
  · have m1 : (.inr (S k) : Key) ∈ labsT qs ↔ (.inr (S k) : Key) ∈ (qs.filterMap labP).map fun k => (.inr (S k) : Key) := uniq_mem
    rw [e] at m1
    have f : ∀ L : List (List Nat), (.inr (S k) : Key) ∈ L.map (fun k => (.inr (S k) : Key)) ↔ k ∈ L := fun L => ⟨fun h => by
      obtain ⟨j, hj, ej⟩ := List.mem_map.mp h
      rwa [← S_inj (Sum.inr.inj ej)], fun h => List.mem_map.mpr ⟨k, h, rfl⟩⟩
    exact (f _).symm.trans (m1.trans (f _))
  · have h := congrArg List.head? e
    rw [List.head?_map] at h
    cases q : qs.filterMap labP with
    | nil =>
      unfold labsT at h
      rw [q] at h
      cases ls with
      | nil => rfl
      | cons a r => cases h
    | cons a r =>
      unfold labsT at h
      rw [q] at h
      have h2 : (uniq ((a :: r).map fun k => (.inr (S k) : Key))).head? = some (.inr (S a)) := uniq_head _ [.inr (S a)] (fun z => nomatch z)
      rw [h2] at h
      cases ls with
      | nil => cases h
      | cons b s =>
        show some b = some a
        rw [S_inj (Sum.inr.inj (Option.some.inj h))]
theorem find_only {α : Type} {p : α → Bool} {L : List α} {l : α} (h : l ∈ L) (hp : p l = true) (ho : ∀ k ∈ L, p k = true → k = l) : L.find? p = some l := by
  cases e : L.find? p with
  | none => exact absurd hp (List.find?_eq_none.mp e l h)
  | some k => rw [ho k (List.mem_of_find?_eq_some e) (List.find?_some e)]
theorem find_head {α : Type} {p : α → Bool} {L : List α} {l : α} (h : L.head? = some l) (hp : p l = true) : L.find? p = some l := by
  cases L with
  | nil => cases h
  | cons a r =>
    cases h
    rw [List.find?_cons, hp]
theorem c_neOth {K : PySem.W.Frag} {H : Hp} {p q : Addr} {tg : Str} {zs : List V} {Q : VK} (hp : H p = some (.tup (.str tg :: zs))) (hq : H q = some (.tup (.str tg :: zs))) (h : TP (.oth tg zs)) (k : Q (.bl false) H) : rNeD K (.ref p) (.ref q) H Q :=
  ⟨dPc (.oth tg zs), dPc (.oth tg zs), .tup (SqT.of hp) (dp_tvs h), .tup (SqT.of hq) (dp_tvs h), shape_pc h, shape_pc h, by
    rw [PySem.SeqAt.eqv_refl _ (by have := shape_pc h; unfold PySem.SeqAt.shaped at this; rw [Bool.and_eq_true] at this; exact this.1)]
    exact k⟩
theorem c_eqOth {K : PySem.W.Frag} {H : Hp} {p q : Addr} {tg : Str} {zs : List V} {Q : VK} (hp : H p = some (.tup (.str tg :: zs))) (hq : H q = some (.tup (.str tg :: zs))) (h : TP (.oth tg zs)) (k : Q (.bl true) H) : rEqD K (.ref p) (.ref q) H Q :=
  ⟨dPc (.oth tg zs), dPc (.oth tg zs), .tup (SqT.of hp) (dp_tvs h), .tup (SqT.of hq) (dp_tvs h), shape_pc h, shape_pc h, by
    rw [PySem.SeqAt.eqv_refl _ (by have := shape_pc h; unfold PySem.SeqAt.shaped at this; rw [Bool.and_eq_true] at this; exact this.1)]
    exact k⟩
theorem shape_tv {xs : List V} (h : ∀ x ∈ xs, TV x) : PySem.SeqAt.shaped (.tuple (xs.map dV)) = true := by
  unfold PySem.SeqAt.shaped
  rw [Bool.and_eq_true, decide_eq_true_iff]
  refine ⟨?_, ?_⟩
  · rw [PyData.canLay0]
    refine lay_all fun d hd => ?_
    obtain ⟨v, hv, rfl⟩ := List.mem_map.mp hd
    exact lay_tv (h v hv)
  · have dv : ∀ v, (dV v).depth = 0 := fun v => by cases v <;> rfl
    have : ∀ vs : List V, PyData.depthAll (vs.map dV) = 0 := by
      intro vs
      induction vs with
      | nil => rfl
      | cons v r ih =>
        rw [List.map_cons, PyData.depthAll, dv, ih]
        rfl
    rw [PyData.depth, this]
    decide
/-- a tuple of texts against the empty one -/
theorem c_neEmpT {K : PySem.W.Frag} {H : Hp} {p q : Addr} {xs : List V} {Q : VK} (hp : H p = some (.tup xs)) (hq : H q = some (.tup [])) (h : ∀ x ∈ xs, TV x) (k : Q (.bl (!xs.isEmpty)) H) : rNeD K (.ref p) (.ref q) H Q := by
  refine ⟨.tuple (xs.map dV), .tuple [], .tup (SqT.of hp) (dp_tvs h), .tup (SqT.of hq) .nil, shape_tv h, shape_tv (xs := []) (fun _ z => nomatch z), ?_⟩
  have e : PyData.eqv (.tuple (xs.map dV)) (.tuple []) = xs.isEmpty := by
    cases xs with
    | nil => rw [List.map_nil, PyData.eqv, PyData.eqvAll]; rfl
    | cons x r => rw [List.map_cons, PyData.eqv, PyData.eqvAll]; rfl
  rw [e]
  exact k
theorem lab_mem {k : List Nat} : ∀ {qs : List Pp}, k ∈ qs.filterMap labP ↔ k ≠ [] ∧ ∃ v, Sum.inr (k, v) ∈ qs := by
  intro qs
  rw [List.mem_filterMap]
  constructor
  · rintro ⟨p, hp, e⟩
    cases p with
    | inl l => cases e
    | inr x =>
      obtain ⟨j, v⟩ := x
      cases j with
      | nil => cases e
      | cons c j =>
        cases e
        exact ⟨(fun z => nomatch z), v, hp⟩
  · rintro ⟨n, v, hv⟩
    cases k with
    | nil => exact absurd rfl n
    | cons c k => exact ⟨_, hv, rfl⟩
theorem val_dv {qs : List Pp} (gp : ∀ p ∈ qs, Gp p) : ∀ v ∈ qs.filterMap valP, DV v := fun v hv => by
  obtain ⟨p, hp, e⟩ := List.mem_filterMap.mp hv
  cases p with
  | inl l => cases e
  | inr x =>
    obtain ⟨k, u⟩ := x
    cases k with
    | nil =>
      cases e
      exact (gp _ hp).2.2
    | cons c k => cases e
/-- the table of parts -/
theorem table_of_es {qs : List Pp} (gp : ∀ p ∈ qs, Gp p) (one : One qs) : ∃ es : List (List Nat × V), knownK qs = kE es ∧ (es.map (·.1)).Nodup ∧ (∀ e ∈ es, DV e.2) ∧ (∀ k, k ∈ es.map (·.1) ↔ k ∈ qs.filterMap labP) ∧ es.length ≤ qs.length := by
  obtain ⟨es, ees⟩ := kE_of (kvs := knownK qs) fun y hy => known_strs hy
  have nd : (es.map (·.1)).Nodup := nd_of_kE (by rw [← ees]; exact known_keys qs)
  have g : ∀ e ∈ es, e.1 ≠ [] ∧ Sum.inr e ∈ qs := fun e he => known_get (by rw [ees]; exact kE_val nd he)
  refine ⟨es, ees, nd, fun e he => (gp _ (g e he).2).2.2, fun k => ?_, ?_⟩
  · rw [lab_mem]
    constructor
    · intro h
      obtain ⟨e, he, rfl⟩ := List.mem_map.mp h
      exact ⟨(g e he).1, e.2, (g e he).2⟩
    · rintro ⟨n, v, hv⟩
      cases k with
      | nil => exact absurd rfl n
      | cons c k =>
        have h := known_has one hv
        rw [ees] at h
        have h2 := key_of_val h
        rw [kE_keys] at h2
        obtain ⟨j, hj, ej⟩ := List.mem_map.mp h2
        rwa [← S_inj (Sum.inr.inj ej)]
  · have := known_len qs
    rw [ees] at this
    unfold kE at this
    rwa [List.length_map] at this
theorem tv_nat {n : Nat} (h : n ≤ 10 ^ 6) : TV (.int (n : Int)) := .int _ (by
  rw [if_neg (by omega)]
  unfold most
  omega)
theorem tp_oth {tg : Str} {l : List Nat} {zs : List V} (e : tg = S l) (hl : ∀ c ∈ l, 32 ≤ c ∧ c ≤ 126) (h : ∀ z ∈ zs, TV z) : TP (.oth tg zs) := fun y hy => by
  rcases List.mem_cons.mp (show y ∈ V.str tg :: zs from hy) with rfl | hy
  · rw [e]
    exact .str _ hl
  · exact h y hy
theorem misS : ("mismatch" : Str) = S [109, 105, 115, 109, 97, 116, 99, 104] := by decide +kernel
theorem labS : ("label" : Str) = S [108, 97, 98, 101, 108] := by decide +kernel
theorem unuS : ("unused" : Str) = S [117, 110, 117, 115, 101, 100] := by decide +kernel
theorem cutV_mem {xs : List V} {lo hi : Option Int} {v : V} (h : v ∈ cutV xs lo hi) : v ∈ xs := by
  unfold cutV at h
  exact List.mem_of_mem_drop (List.mem_of_mem_take h)
theorem kE_len (es : List (List Nat × V)) : (kE es).length = es.length := List.length_map _
theorem kE_app (xs ys : List (List Nat × V)) : kE (xs ++ ys) = kE xs ++ kE ys := List.map_append
theorem nodup_take {L : List (List Nat)} {i : Nat} {k : List Nat} (nd : L.Nodup) (h : L[i]? = some k) (m : k ∈ L.take i) : False := by
  obtain ⟨hi, e⟩ := List.getElem?_eq_some_iff.mp h
  obtain ⟨j, hj, ej⟩ := List.mem_iff_getElem.mp m
  rw [List.length_take] at hj
  rw [List.getElem_take] at ej
  exact (List.pairwise_iff_getElem.mp nd j i (by omega) hi (by omega)) (ej.trans e.symm)
def sp_l_errors (Z : Ad) : Sp := fun vs H Q _ => ∃ (t c b : Addr) (qs : List Pp), vs = [.ref t, .ref c, .ref b] ∧ TmplAt Z.c_Template H t qs ∧ CellsAt H c qs ∧ BagB H b ∧ (∀ p ∈ qs, Gp p) ∧ One qs ∧ qs.length ≤ 8 ∧ (tmpl qs).length ≤ 200 ∧ ∀ H', BagB H' b → KeptB b H H' → Q (.bl true) H'
section
variable {P : Program} {w : World} {K : PySem.W.Frag} {mg : Str → Option Value} {base : Heap} {Z : Ad}
set_option maxHeartbeats 8000000 in
theorem ok_l_errors (T : Txt K mg Z) : Gd.FnG P w K mg base CX0 12 Z.a_l_errors Z.d_l_errors ["_law_template", "_law_parts_here", "_law_bag_here"] (sp_l_errors Z) := by
  refine Gd.Fun.okG T.F_l_errors sc_l_errors (fun vs H Q E h => ?_) (fun cdv A outer s H vs Q E hr stl h => ?_)
  · obtain ⟨t, c, b, qs, rfl, _⟩ := h
    rfl
  · obtain ⟨t, c, b, qs, rfl, ht, hc, hb, gp, one, ql, tl, q⟩ := h
    have nd := sc_l_errors.nd
    have hu := hu_of hr
    have cT := T.cl_Template
    have n2 := T.n_Template_labels
    refine ⟨_, (pss_cons (ps_par (i := 3) (j := 4) (by rfl) nd rfl rfl (by decide) rfl rfl (pa_cons (pe_call (ok_l_values T) (hr.mono (by decide)) (by rfl) T.g_l_values T.F_l_values.kp T.b_l_values .nil pass0 (pa_cons (pv 1) pa_nil)) (pa_cons (pe_call (ok_l_table T) (hr.mono (by decide)) (by rfl) T.g_l_table T.F_l_table.kp T.b_l_table .nil pass0 (pa_cons (pv 1) pa_nil)) pa_nil)) (by rfl))
  (pss_cons (ps_set (i := 5) nd rfl (Or.inl rfl) (pe_call (ok_l_odd T) (hr.mono (by decide)) (by rfl) T.g_l_odd T.F_l_odd.kp T.b_l_odd .nil pass0 (pa_cons (pv 2) pa_nil)))
  (pss_cons (ps_set (i := 6) nd rfl (Or.inl rfl) (pe_callB Eg.cr_len (by rfl) T.u_len (by decide +kernel) (pa_cons (pv 3) pa_nil)))
  (pss_cons (ps_set (i := 7) nd rfl (Or.inl rfl) (pe_call (ok_l_raised T) (hr.mono (by decide)) (by rfl) T.g_l_raised T.F_l_raised.kp T.b_l_raised .nil pass0 (pa_cons (pv 0) (pa_cons (pe_op op_cat (pe_slice sl_list (pv 3) (po_some pe_int) po_none) (pe_lst (pa_cons (pv 5) pa_nil))) (pa_cons (pv 4) pa_nil)))))
  (C8.pss_cut (ps_if (PW.pt (pw_and (pt_cmpR op_gt (pv 6) pe_int (nomark _)) (pw_and1 (pt_cmpR op_ne (pe_callB (Rn.cr_reprN stl (Gd.u70 hr)) (by rfl) T.u_repr (by decide +kernel) (pa_cons (pv 7) pa_nil)) (pe_callB (Rn.cr_reprN stl (Gd.u70 hr)) (by rfl) T.u_repr (by decide +kernel) (pa_cons (pe_tup (pa_cons pe_str (pa_cons (pv 5) pa_nil))) pa_nil)) (nomark _)))))
  (pss_one (ps_ret pe_bl))
  pss_nil)
  (pss_cons (ps_set (i := 7) nd rfl (Or.inl rfl) (pe_call (ok_l_raised T) (hr.mono (by decide)) (by rfl) T.g_l_raised T.F_l_raised.kp T.b_l_raised .nil pass0 (pa_cons (pv 0) (pa_cons (pe_op op_cat (pv 3) (pe_lst (pa_cons pe_int pa_nil))) (pa_cons (pv 4) pa_nil)))))
  (pss_cons (ps_if (pt_cmpR (op_neD hr.units) (pv 7) (pe_tup (pa_cons pe_str (pa_cons (pv 6) (pa_cons (pe_op op_add (pv 6) pe_int) pa_nil)))) (nomark _))
  (pss_one (ps_ret pe_bl))
  pss_nil)
  (C8.pss_cut (ps_if (PW.pt (pw_and (pt_cmpR (op_neD hr.units) (pe_fld (pv 0) rfl) (pe_tup pa_nil) (nomark _)) (pw_and1 (pt_cmpR (op_neD hr.units) (pe_call (ok_l_raised T) (hr.mono (by decide)) (by rfl) T.g_l_raised T.F_l_raised.kp T.b_l_raised .nil pass0 (pa_cons (pv 0) (pa_cons (pv 3) (pa_cons pe_non pa_nil)))) (pe_tup (pa_cons pe_str (pa_cons (pe_ix ix_tup (pe_fld (pv 0) rfl) pe_int (fun _ _ => rfl)) pa_nil))) (nomark _)))))
  (pss_one (ps_ret pe_bl))
  pss_nil)
  (pss_cons (ps_for PassesOwn.never rfl (pi_tup (pe_fld (pv 0) rfl)) (pg_name (i := 8) nd rfl (Or.inl rfl))
  (pss_cons (ps_set (i := 9) nd rfl (Or.inl rfl) pe_dnewK)
  (pss_cons (ps_for PassesOwn.never rfl (pi_tup (pe_fld (pv 0) rfl)) (pg_name (i := 10) nd rfl (Or.inl rfl))
  (pss_one (ps_if (pt_cmpR op_ne (pv 10) (pv 8) (nomark _))
  (pss_one (ps_dput hu (pv 9) (pv 10) (pe_dget hu (pv 4) (pv 10) (fun _ _ => rfl)) rfl))
  pss_nil)))
  (pss_cons (ps_set (i := 7) nd rfl (Or.inl rfl) (pe_call (ok_l_raised T) (hr.mono (by decide)) (by rfl) T.g_l_raised T.F_l_raised.kp T.b_l_raised .nil pass0 (pa_cons (pv 0) (pa_cons (pv 3) (pa_cons (pv 9) pa_nil)))))
  (pss_one (ps_if (pt_cmpR (op_neD hr.units) (pv 7) (pe_tup (pa_cons pe_str (pa_cons (pv 8) pa_nil))) (nomark _))
  (pss_one (ps_ret pe_bl))
  pss_nil))))))
  (pss_cons (ps_dput hu (pv 4) pe_str pe_int rfl)
  (pss_cons (ps_if (pt_cmpR Eg.opr_isN (pe_call (ok_l_raised T) (hr.mono (by decide)) (by rfl) T.g_l_raised T.F_l_raised.kp T.b_l_raised .nil pass0 (pa_cons (pv 0) (pa_cons (pv 3) (pa_cons (pe_disp (pps_cons pe_str pe_int pps_nil) rfl rfl (fun z => nomatch z) (show 1 ≤ 15 by decide)) pa_nil)))) pe_non (nomark _))
  (pss_one (ps_ret pe_bl))
  pss_nil)
  (pss_one (ps_ret (pe_cmpR (op_eqD hr.units) (pe_call (ok_l_raised T) (hr.mono (by decide)) (by rfl) T.g_l_raised T.F_l_raised.kp T.b_l_raised .nil pass0 (pa_cons (pv 0) (pa_cons (pv 3) (pa_cons (pv 4) pa_nil)))) (pe_tup (pa_cons pe_str (pa_cons pe_str pa_nil))) (nomark _))))))))))))))), ?_⟩
    refine Eg.w_sig (σ := [some (.ref t), some (.ref c), some (.ref b), none, none, none, none, none, none, none, none]) rfl ?_
    obtain ⟨dxt, lt, htt, hlt⟩ := id ht
    obtain ⟨ls, lse, lsn, lsm, lsh⟩ := labs_of qs
    rw [lse] at hlt
    obtain ⟨es, ees, esn, esd, esm, esl⟩ := table_of_es gp one
    obtain ⟨hk1, hk2⟩ := holes_tok qs
    have vdv := val_dv gp
    have vl : (qs.filterMap valP).length ≤ qs.length := List.length_filterMap_le _ _
    have vvb : ∀ v ∈ qs.filterMap valP, valB v = true := fun v hv => dv_valB (vdv v hv)
    have rngl : ∀ l ∈ ls, ∀ c ∈ l, 32 ≤ c ∧ c ≤ 126 := fun l hl => by
      obtain ⟨n, v, hv⟩ := lab_mem.mp ((lsm l).mp hl)
      exact label_rng (gp _ hv).1
    have tvl : ∀ x ∈ (ls.map fun k => (.inr (S k) : Key)).map kV, TV x := fun x hx => by
      obtain ⟨y, hy, rfl⟩ := List.mem_map.mp hx
      obtain ⟨l, hl, rfl⟩ := List.mem_map.mp hy
      exact .str _ (rngl l hl)
    walk_at "go"
    refine ⟨c, qs, rfl, hc, by omega, fun va H1 hva h1v s1 => ?_⟩
    walk_at "go"
    refine ⟨c, qs, rfl, hc.keep s1, by omega, fun da H2 hda h2d s2 => ?_⟩
    rw [ees] at h2d
    have vab := hb.ne hva
    have dab := (hb.keep s1).ne hda
    have da0 : H da = none := s1.free hda
    have s12 := s1.trans s2
    walk_at "go"
    refine ⟨b, rfl, hb.keep s12, fun od dd H3 odd big hb3 k3 => ?_⟩
    have h3v := k3 _ _ (s2 _ _ h1v) vab
    have h3d := k3 _ _ h2d dab
    have h3t := k3 _ _ (s12 _ _ htt) (ins_ne hb htt)
    have h3l := k3 _ _ (s12 _ _ hlt) (tup_ne hb hlt)
    have k03 : KeptB b H H3 := (KeptB.of s12).trans k3
    have ov : Vl [] H3 od dd := .odd (odd [] (fun _ z => nomatch z)) big
    have ob : valB od = false ∧ OkV H3 od := ⟨ov.cases.elim (fun z => by
      have := z.1
      cases this with
      | int i hi => exact absurd hi (big i rfl)
      | str x => exact absurd (odd [] (fun _ z => nomatch z)) (fun o => by cases o)) fun z => z.2, ov.cases⟩
    generalize hvs : qs.filterMap valP = vs at *
    clear s1 s2 h1v h2d hc k3
    walk_at "go"
    refine ⟨va, vs, rfl, SqL.of h3v, fun w1 hw1 => ?_⟩
    have wl := cutV_length vs (some 1) none
    have wm : ∀ v ∈ cutV vs (some 1) none, v ∈ vs := fun v hv => cutV_mem hv
    generalize cutV vs (some 1) none = ws at wl wm ⊢
    have s4 : Same H3 (upd H3 w1 (.lst ws)) := fun c o e => Eg.upd_old e hw1
    have h4w : upd H3 w1 (.lst ws) w1 = some (.lst ws) := upd_same
    generalize upd H3 w1 (.lst ws) = H4 at s4 h4w ⊢
    walk_at "go"
    intro w2 hw2
    have s5 : Same H4 (upd H4 w2 (.lst [od])) := fun c o e => Eg.upd_old e hw2
    have h5w2 : upd H4 w2 (.lst [od]) w2 = some (.lst [od]) := upd_same
    generalize upd H4 w2 (.lst [od]) = H5 at s5 h5w2 ⊢
    have h5w1 := s5 _ _ h4w
    refine Eg.c_cat h5w1 h5w2 (by simp; omega) fun w3 hw3 => ?_
    have s6 : Same H5 (upd H5 w3 (.lst (ws ++ [od]))) := fun c o e => Eg.upd_old e hw3
    have h6w : upd H5 w3 (.lst (ws ++ [od])) w3 = some (.lst (ws ++ [od])) := upd_same
    generalize upd H5 w3 (.lst (ws ++ [od])) = H6 at s6 h6w ⊢
    have s36 := (s4.trans s5).trans s6
    have h6d := s36 _ _ h3d
    walk_at "go"
    obtain ⟨ns, ar, hm⟩ := args_of (es := es) h6w h6d (by omega) (by rw [List.length_append]; show ws.length + 1 < 1000; omega) (fun v hv => by
      rcases List.mem_append.mp hv with hv | hv
      · exact dv_okv (vdv v (wm v hv))
      · rw [List.mem_singleton.mp hv]
        exact ob.2.keep s36) esd esn
    refine ⟨t, w3, .ref da, .value od, rfl, ⟨dxt, lt, _, _, _, _, ns, s36 _ _ h3t, .inl ⟨da, rfl, case_er ar esn (by omega) gp (er_value (fun v hv => vvb v (wm v hv)) ob.1)⟩⟩, (fun _ z => nomatch z), fun p1 H7 hp1 h7p s7 => ?_⟩
    have s37 := s36.trans s7
    clear s4 s5 s6 h4w h5w1 h5w2 h6w h6d hw1 hw2 hw3 ar hm ns
    have h7p : H7 p1 = some (.tup [.str "value", od]) := h7p
    have ov7 : Vl [] H7 od dd := ov.keep s37
    walk_at "go"
    refine ⟨fun σ' H' => σ' = [some (.ref t), some (.ref c), some (.ref b), some (.ref va), some (.ref da), some od, some (.int ((vs.length : Nat) : Int)), some (.ref p1), none, none, none] ∧ Same H7 H', ?_, ?_⟩
    · walk_at "go"
      by_cases h0 : (0 : Int) < ((vs.length : Nat) : Int)
      · rw [decide_eq_true h0, if_pos rfl]
        walk_at "go"
        refine Rn.c_reprN (.tup (SqT.of h7p) (.cons (.str _) (.cons ov7.dn .nil))) (okn_pair (okn_lit (l := [118, 97, 108, 117, 101]) (by decide +kernel) (by decide) (by decide)) (ov7.okn.mono (by decide) (by decide))) (Nat.le_refl _) ?_
        walk_at "go"
        intro p2 hp2
        have s8 : Same H7 (upd H7 p2 (.tup [.str "value", od])) := fun c o e => Eg.upd_old e hp2
        have h8p : upd H7 p2 (.tup [.str "value", od]) p2 = some (.tup [.str "value", od]) := upd_same
        generalize upd H7 p2 (.tup [.str "value", od]) = H8 at s8 h8p ⊢
        walk_at "go"
        refine Rn.c_reprN (.tup (SqT.of h8p) (.cons (.str _) (.cons (ov7.keep s8).dn .nil))) (okn_pair (okn_lit (l := [118, 97, 108, 117, 101]) (by decide +kernel) (by decide) (by decide)) (ov7.okn.mono (by decide) (by decide))) (Nat.le_refl _) ?_
        walk_at "go"
        rw [if_neg (by simp)]
        walk_at "go"
        exact ⟨rfl, s8⟩
      · rw [decide_eq_false h0, if_neg Bool.false_ne_true]
        walk_at "go"
        exact ⟨rfl, Same.refl _⟩
    rintro _ H8 ⟨rfl, s8⟩
    have s38 := s37.trans s8
    clear s7 hp1 h7p ov7 s36 s37 s8 wl wm
    have h8v := s38 _ _ h3v
    walk_at "go"
    intro w2 hw2
    have s5 : Same H8 (upd H8 w2 (.lst [.int 1])) := fun c o e => Eg.upd_old e hw2
    have h5w2 : upd H8 w2 (.lst [.int 1]) w2 = some (.lst [.int 1]) := upd_same
    generalize upd H8 w2 (.lst [.int 1]) = H5 at s5 h5w2 ⊢
    have h5v := s5 _ _ h8v
    refine Eg.c_cat h5v h5w2 (by simp; omega) fun w3 hw3 => ?_
    have s6 : Same H5 (upd H5 w3 (.lst (vs ++ [.int 1]))) := fun c o e => Eg.upd_old e hw3
    have h6w : upd H5 w3 (.lst (vs ++ [.int 1])) w3 = some (.lst (vs ++ [.int 1])) := upd_same
    generalize upd H5 w3 (.lst (vs ++ [.int 1])) = H6 at s6 h6w ⊢
    have s36 := (s38.trans s5).trans s6
    have h6d := s36 _ _ h3d
    have dv1 : DV (.int 1) := .int _ (by unfold most; decide)
    have vdv1 : ∀ v ∈ vs ++ [V.int 1], DV v := fun v hv => by
      rcases List.mem_append.mp hv with hv | hv
      · exact vdv v hv
      · rw [List.mem_singleton.mp hv]
        exact dv1
    walk_at "go"
    obtain ⟨ns, ar, hm⟩ := args_of (es := es) h6w h6d (by omega) (by rw [List.length_append]; show vs.length + 1 < 1000; omega) (fun v hv => dv_okv (vdv1 v hv)) esd esn
    refine ⟨t, w3, .ref da, .mism vs.length (vs.length + 1), rfl, ⟨dxt, lt, _, _, _, _, ns, s36 _ _ h3t, .inl ⟨da, rfl, case_er ar esn (by omega) gp ?_⟩⟩, (fun _ z => nomatch z), fun p1 H7 hp1 h7p s7 => ?_⟩
    · have e := erOf_mis (ks := Tc.holes (tokP qs)) (vs := vs ++ [.int 1]) (ns := ns) (tab := tabV (kE es)) (nv_all (fun v hv => dv_valB (vdv1 v hv)) (tab_dv esn esd hm)) (by rw [hk2, List.length_append]; show ¬ vs.length = vs.length + 1; omega)
      rw [hk2, List.length_append] at e
      exact e
    have s37 := s36.trans s7
    clear s5 s6 h5w2 h5v h6w h6d hw2 hw3 ar hm s36 s38 h8v
    have h7p : H7 p1 = some (.tup [.str "mismatch", .int ((vs.length : Nat) : Int), .int ((vs.length + 1 : Nat) : Int)]) := h7p
    walk_at "go"
    intro p2 hp2
    have s8 : Same H7 (upd H7 p2 (.tup [.str "mismatch", .int ((vs.length : Nat) : Int), .int (((vs.length : Nat) : Int) + 1)])) := fun c o e => Eg.upd_old e hp2
    have h8p : upd H7 p2 (.tup [.str "mismatch", .int ((vs.length : Nat) : Int), .int (((vs.length : Nat) : Int) + 1)]) p2 = some (.tup [.str "mismatch", .int ((vs.length : Nat) : Int), .int ((vs.length + 1 : Nat) : Int)]) := upd_same
    generalize upd H7 p2 (.tup [.str "mismatch", .int ((vs.length : Nat) : Int), .int (((vs.length : Nat) : Int) + 1)]) = H8 at s8 h8p ⊢
    refine c_neOth (s8 _ _ h7p) h8p (tp_oth misS (by decide) fun z hz => ?_) ?_
    · rcases List.mem_cons.mp hz with rfl | hz
      · exact tv_nat (by omega)
      · rw [List.mem_singleton.mp hz]
        exact tv_nat (by omega)
    have s38 := s37.trans s8
    clear s7 s8 h7p h8p hp1 hp2 s37
    have h8t := s38 _ _ h3t
    have h8l := s38 _ _ h3l
    have h8v := s38 _ _ h3v
    have a2 := lk_tl (tmpl qs) lt vs.length
    walk_at "go"
    refine ⟨fun σ' H' => σ' = [some (.ref t), some (.ref c), some (.ref b), some (.ref va), some (.ref da), some od, some (.int ((vs.length : Nat) : Int)), some (.ref p1), none, none, none] ∧ Same H8 H', ?_, ?_⟩
    · walk_at "go"
      intro p hp
      have s9 : Same H8 (upd H8 p (.tup [])) := fun c o e => Eg.upd_old e hp
      have h9p : upd H8 p (.tup []) p = some (.tup []) := upd_same
      generalize upd H8 p (.tup []) = H9 at s9 h9p ⊢
      have h9l := s9 _ _ h8l
      refine c_neEmpT h9l h9p tvl ⟨_, rfl, ?_⟩
      have h9t := s9 _ _ h8t
      have h9v := s9 _ _ h8v
      cases els : ls with
      | nil =>
        walk_at "go"
        exact ⟨rfl, s9⟩
      | cons l0 r =>
        rw [els] at h9l lsh
        rw [if_pos (show (!(((l0 :: r).map fun k => (.inr (S k) : Key)).map kV).isEmpty) = true from rfl)]
        walk_at "go"
        refine ⟨t, va, .non, .label l0, rfl, ⟨dxt, lt, _, _, vs, [], [], h9t, .inr ⟨rfl, fun da' H' hda' h' s' => ?_⟩⟩, (fun _ z => nomatch z), fun p3 H10 hp3 h10p s10 => ?_⟩
        · obtain ⟨ns, ar, hm⟩ := args_of (es := []) (s' _ _ h9v) h' (by decide) (by omega) (fun v hv => dv_okv (vdv v hv)) (fun _ z => nomatch z) List.nodup_nil
          have : ns = [] := List.eq_nil_iff_forall_not_mem.mpr fun z hz => by
            obtain ⟨e, he, _⟩ := (hm z).mp hz
            cases he
          subst this
          exact case_er ar List.nodup_nil (by omega) gp (er_label List.nodup_nil (fun _ z => nomatch z) hm vvb hk2 (find_head (by rw [hk1, ← lsh]; rfl) rfl))
        have h10p : H10 p3 = some (.tup [.str "label", .str (S l0)]) := h10p
        have h10t := s10 _ _ h9t
        have h10l := s10 _ _ h9l
        have v1 : atI (((l0 :: r).map fun k => (.inr (S k) : Key)).map kV) 0 = some (.str (S l0)) := atI_nat (j := 0) rfl
        generalize (((l0 :: r).map fun k => (.inr (S k) : Key)).map kV) = xs9 at h10l v1
        walk_at "go"
        intro p4 hp4
        have s11 : Same H10 (upd H10 p4 (.tup [.str "label", .str (S l0)])) := fun c o e => Eg.upd_old e hp4
        have h11p : upd H10 p4 (.tup [.str "label", .str (S l0)]) p4 = some (.tup [.str "label", .str (S l0)]) := upd_same
        generalize upd H10 p4 (.tup [.str "label", .str (S l0)]) = H11 at s11 h11p ⊢
        refine c_neOth (s11 _ _ h10p) h11p (tp_oth labS (by decide) fun z hz => ?_) ?_
        · rw [List.mem_singleton.mp hz]
          exact .str _ (rngl l0 (by rw [els]; exact List.mem_cons_self))
        walk_at "go"
        exact ⟨rfl, (s9.trans s10).trans s11⟩
    rintro _ H9 ⟨rfl, s9⟩
    have s39 := s38.trans s9
    clear s9 s38 h8t h8l h8v
    have h9t := s39 _ _ h3t
    have h9l := s39 _ _ h3l
    have tabs : ∀ k ∈ ls, valV (kE es) (.inr (S k)) = some (tabV (kE es) (S k)) ∧ DV (tabV (kE es) (S k)) := fun k hk => by
      obtain ⟨e, he, rfl⟩ := List.mem_map.mp ((esm k).mpr ((lsm k).mp hk))
      unfold tabV
      rw [kE_val esn he]
      exact ⟨rfl, esd e he⟩
    have lsl : ls.length ≤ 8 := by
      have h1 := labsT_len qs
      rw [lse, List.length_map] at h1
      omega
    walk_at "go"
    refine for_tup (xs := (ls.map fun k => (.inr (S k) : Key)).map kV) (fun j σ' H' => ∃ v7 v8 v9 v10 : Option V, σ' = [some (.ref t), some (.ref c), some (.ref b), some (.ref va), some (.ref da), some od, some (.int ((vs.length : Nat) : Int)), v7, v8, v9, v10] ∧ Same H9 H') ⟨_, _, _, _, rfl, Same.refl _⟩ ?_ ?_ ?_
    · rintro j _ H' _ ⟨v7, v8, v9, v10, rfl, s'⟩
      exact SqT.of (s' _ _ h9l)
    · rintro j x _ H10 hx ⟨v7, v8, v9, v10, rfl, s10⟩
      rw [List.getElem?_map, List.getElem?_map] at hx
      obtain ⟨y, hy, rfl⟩ := Option.map_eq_some_iff.mp hx
      obtain ⟨l, hl, rfl⟩ := Option.map_eq_some_iff.mp hy
      have lm := List.mem_of_getElem? hl
      have s310 := s39.trans s10
      have h10t := s310 _ _ h3t
      have h10l := s310 _ _ h3l
      have h10d := s310 _ _ h3d
      have h10v := s310 _ _ h3v
      walk_at "go"
      intro D hD
      have s11 : Same H10 (upd H10 D (.dK [])) := fun c o e => Eg.upd_old e hD
      have h11D : upd H10 D (.dK []) D = some (.dK []) := upd_same
      generalize upd H10 D (.dK []) = H11 at s11 h11D ⊢
      have h11t := s11 _ _ h10t
      have h11l := s11 _ _ h10l
      have h11d := s11 _ _ h10d
      have dD : da ≠ D := ne_of_none h10d hD
      walk_at "go"
      refine for_tup (xs := (ls.map fun k => (.inr (S k) : Key)).map kV) (fun i σ' H' => ∃ v10 : Option V, σ' = [some (.ref t), some (.ref c), some (.ref b), some (.ref va), some (.ref da), some od, some (.int ((vs.length : Nat) : Int)), v7, some (.str (S l)), some (.ref D), v10] ∧ H' D = some (.dK (kE (((ls.take i).filter fun k => !decide (k = l)).map fun k => (k, tabV (kE es) (S k))))) ∧ Same H10 H') ⟨_, rfl, h11D, s11⟩ ?_ ?_ ?_
      · rintro i _ H' _ ⟨v10, rfl, _, s'⟩
        exact SqT.of (s' _ _ h10l)
      · rintro i x _ H12 hx ⟨v10, rfl, h12D, s12⟩
        rw [List.getElem?_map, List.getElem?_map] at hx
        obtain ⟨y, hy, rfl⟩ := Option.map_eq_some_iff.mp hx
        obtain ⟨k, hk, rfl⟩ := Option.map_eq_some_iff.mp hy
        obtain ⟨hlt', he'⟩ := List.getElem?_eq_some_iff.mp hk
        have tk : ls.take (i + 1) = ls.take i ++ [k] := by rw [List.take_succ_eq_append_getElem hlt', he']
        have km := List.mem_of_getElem? hk
        have h12d := s12 _ _ h10d
        obtain ⟨tv1, tv2⟩ := tabs k km
        walk_at "go"
        rw [show decide (kV (.inr (S k)) = V.str (S l)) = decide (k = l) from str_eqS]
        by_cases e : k = l
        · rw [decide_eq_true e]
          walk_at "go"
          refine ⟨_, rfl, ?_, s12⟩
          rw [tk, List.filter_append, show [k].filter (fun k => !decide (k = l)) = [] by rw [List.filter_cons, decide_eq_true e]; rfl, List.append_nil]
          exact h12D
        · rw [decide_eq_false e]
          walk_at "go"
          have dg : DGet H12 da (kV (.inr (S k))) (some (tabV (kE es) (S k))) := by
            rw [← tv1]
            exact DGet.k h12d
          refine ⟨da, _, rfl, dg, ?_⟩
          clear dg
          walk_at "go"
          have ltk : (((ls.take i).filter fun k => !decide (k = l)).map fun k => (k, tabV (kE es) (S k))).length ≤ 8 := by
            rw [List.length_map]
            refine Nat.le_trans (List.length_filter_le _ _) ?_
            rw [List.length_take]
            omega
          refine ⟨D, _, rfl, DPut.k (k := .inr (S k)) h12D (by rw [kE_len, sizeLine_eq]; omega), ?_⟩
          walk_at "go"
          refine ⟨_, rfl, ?_, fun c o e' => Eg.upd_mut (ne_of_none e' hD) (s12 _ _ e')⟩
          rw [upd_same, tk, List.filter_append, show [k].filter (fun k => !decide (k = l)) = [k] by rw [List.filter_cons, decide_eq_false e]; rfl, List.map_append, kE_app]
          refine congrArg (fun z => some (HO.dK z)) (putK_new fun z => ?_)
          rw [kE_keys, List.map_map] at z
          obtain ⟨j', hj', ej⟩ := List.mem_map.mp z
          obtain ⟨j'', hj'', rfl⟩ := List.mem_map.mp hj'
          have e2 : j'' = k := S_inj (Sum.inr.inj ej)
          subst e2
          exact nodup_take lsn hk (List.mem_filter.mp hj'').1
      · rintro _ H12 ⟨v10, rfl, h12D, s12⟩
        rw [List.length_map, List.length_map, List.take_length] at h12D
        have h12t := s12 _ _ h10t
        have h12v := s12 _ _ h10v
        have nd2 : (((ls.filter fun k => !decide (k = l)).map fun k => (k, tabV (kE es) (S k))).map (·.1)).Nodup := by
          rw [List.map_map]
          show ((ls.filter fun k => !decide (k = l)).map id).Nodup
          rw [List.map_id]
          exact lsn.sublist List.filter_sublist
        have mem2 : ∀ k, k ∈ ((ls.filter fun k => !decide (k = l)).map fun k => (k, tabV (kE es) (S k))).map (·.1) ↔ k ∈ ls ∧ k ≠ l := fun k => by
          rw [List.map_map]
          show k ∈ ((ls.filter fun k => !decide (k = l)).map id) ↔ _
          rw [List.map_id, List.mem_filter]
          simp
        have dv2 : ∀ e ∈ ((ls.filter fun k => !decide (k = l)).map fun k => (k, tabV (kE es) (S k))), DV e.2 := fun e he => by
          obtain ⟨k, hk, rfl⟩ := List.mem_map.mp he
          exact (tabs k (List.mem_filter.mp hk).1).2
        have l2 : ((ls.filter fun k => !decide (k = l)).map fun k => (k, tabV (kE es) (S k))).length ≤ 8 := by
          rw [List.length_map]
          exact Nat.le_trans (List.length_filter_le _ _) lsl
        generalize ((ls.filter fun k => !decide (k = l)).map fun k => (k, tabV (kE es) (S k))) = es2 at h12D nd2 mem2 dv2 l2
        walk_at "go"
        obtain ⟨ns, ar, hm⟩ := args_of (es := es2) h12v h12D (by omega) (by omega) (fun v hv => dv_okv (vdv v hv)) dv2 nd2
        refine ⟨t, va, .ref D, .label l, rfl, ⟨dxt, lt, _, _, _, _, ns, h12t, .inl ⟨D, rfl, case_er ar nd2 (by omega) gp (er_label nd2 dv2 hm vvb hk2 ?_)⟩⟩, (fun _ z => nomatch z), fun p3 H13 hp3 h13p s13 => ?_⟩
        · rw [hk1]
          refine find_only ((lsm l).mp lm) ?_ fun k hk hp => ?_
          · rw [decide_eq_false fun z => ((mem2 l).mp z).2 rfl]
            rfl
          · by_cases e : k = l
            · exact e
            · rw [decide_eq_true ((mem2 k).mpr ⟨(lsm k).mpr hk, e⟩)] at hp
              cases hp
        have h13p : H13 p3 = some (.tup [.str "label", .str (S l)]) := h13p
        walk_at "go"
        intro p4 hp4
        have s14 : Same H13 (upd H13 p4 (.tup [.str "label", .str (S l)])) := fun c o e => Eg.upd_old e hp4
        have h14p : upd H13 p4 (.tup [.str "label", .str (S l)]) p4 = some (.tup [.str "label", .str (S l)]) := upd_same
        generalize upd H13 p4 (.tup [.str "label", .str (S l)]) = H14 at s14 h14p ⊢
        refine c_neOth (s14 _ _ h13p) h14p (tp_oth labS (by decide) fun z hz => ?_) ?_
        · rw [List.mem_singleton.mp hz]
          exact .str _ (rngl l lm)
        walk_at "go"
        exact ⟨_, _, _, _, rfl, ((s10.trans s12).trans s13).trans s14⟩
    · rintro _ H10 ⟨v7, v8, v9, v10, rfl, s10⟩
      have s310 := s39.trans s10
      have h10t := s310 _ _ h3t
      have h10d := s310 _ _ h3d
      have h10v := s310 _ _ h3v
      have hA : ("A" : Str) = S [65] := by decide +kernel
      rw [hA]
      walk_at "go"
      refine ⟨da, _, rfl, DPut.k (k := .inr (S [65])) h10d (by rw [kE_len, sizeLine_eq]; omega), ?_⟩
      have nA : ∀ k ∈ ls, k ≠ [65] := fun k hk => by
        obtain ⟨n, v, hv⟩ := lab_mem.mp ((lsm k).mp hk)
        have hb' := (gp _ hv).1
        rintro rfl
        rcases hb' with h | h
        · cases h
        · exact absurd h (by decide +kernel)
      have nAe : [65] ∉ es.map (·.1) := fun z => nA _ ((lsm _).mpr ((esm _).mp z)) rfl
      have put : putK (kE es) (.inr (S [65])) (.int 3) = kE (es ++ [([65], .int 3)]) := by
        rw [kE_app]
        refine putK_new fun z => ?_
        rw [kE_keys] at z
        obtain ⟨j', hj', ej⟩ := List.mem_map.mp z
        exact nAe (by rw [← S_inj (Sum.inr.inj ej)]; exact hj')
      rw [put]
      have h11d : upd H10 da (.dK (kE (es ++ [([65], .int 3)]))) da = some (.dK (kE (es ++ [([65], .int 3)]))) := upd_same
      have k11 : ∀ c o, H10 c = some o → c ≠ da → upd H10 da (.dK (kE (es ++ [([65], .int 3)]))) c = some o := fun c o e n => Eg.upd_mut n e
      generalize upd H10 da (.dK (kE (es ++ [([65], .int 3)]))) = H11 at h11d k11 ⊢
      have h11t := k11 _ _ h10t (fun z => by rw [z, h10d] at h10t; cases h10t)
      have h11v := k11 _ _ h10v (fun z => by rw [z, h10d] at h10v; cases h10v)
      have k011 : KeptB b H H11 := fun c o e n => k11 _ _ (s310 _ _ (k03 _ _ e n)) (ne_of_none e da0)
      have hb11 : BagB H11 b := by
        obtain ⟨x, y, e, z⟩ := hb3
        exact ⟨x, y, k11 _ _ (s310 _ _ e) dab.symm, z⟩
      have dv3 : DV (.int 3) := .int _ (by unfold most; decide)
      walk_at "go"
      intro g hg
      have h12g0 : upd H11 g (.dK []) g = some (.dK []) := upd_same
      refine ⟨h12g0, .inr (S [65]), rfl, ?_⟩
      have s12 : Same H11 (upd (upd H11 g (.dK [])) g (.dK [(.inr (S [65]), .int 1)])) := fun c o e => Eg.upd_mut (ne_of_none e hg) (Eg.upd_old e hg)
      have h12g : upd (upd H11 g (.dK [])) g (.dK [(.inr (S [65]), .int 1)]) g = some (.dK (kE [([65], .int 1)])) := upd_same
      generalize upd (upd H11 g (.dK [])) g (.dK [(.inr (S [65]), .int 1)]) = H12 at s12 h12g ⊢
      clear h12g0
      have h12t := s12 _ _ h11t
      have h12v := s12 _ _ h11v
      have nd1 : (([([65], V.int 1)] : List (List Nat × V)).map (·.1)).Nodup := by decide
      have dvo : ∀ e ∈ ([([65], V.int 1)] : List (List Nat × V)), DV e.2 := fun e he => by
        rw [List.mem_singleton.mp he]
        exact dv1
      walk_at "go"
      obtain ⟨ns, ar, hm⟩ := args_of (es := [([65], .int 1)]) h12v h12g (by decide) (by omega) (fun v hv => dv_okv (vdv v hv)) dvo nd1
      cases ce : erOf (Tc.holes (tokP qs)) vs ns (tabV (kE [([65], .int 1)])) with
      | none =>
        obtain ⟨_, _, _, h4⟩ := erOf_inv ce
        have := h4 (S [65]) ((hm _).mpr ⟨_, List.mem_cons_self, rfl⟩)
        rw [hk1] at this
        obtain ⟨k, hk, ek⟩ := List.mem_map.mp this
        rw [S_inj ek] at hk
        exact absurd rfl (nA _ ((lsm _).mpr hk))
      | some er =>
        refine ⟨t, va, .ref g, er, rfl, ⟨dxt, lt, _, _, _, _, ns, h12t, .inl ⟨g, rfl, case_er ar nd1 (by omega) gp ce⟩⟩, erOf_nt ce, fun p3 H13 hp3 h13p s13 => ?_⟩
        clear h13p hp3 ar hm ce
        walk_at "go"
        rw [if_neg (by simp)]
        walk_at "go"
        have h13t := s13 _ _ h12t
        have h13v := s13 _ _ h12v
        have h13d := s13 _ _ (s12 _ _ h11d)
        have k013 : KeptB b H H13 := k011.trans (.of (s12.trans s13))
        have hb13 := hb11.keep (s12.trans s13)
        have nd6 : (((es ++ [([65], V.int 3)] : List (List Nat × V))).map (·.1)).Nodup := by
          rw [List.map_append]
          exact List.nodup_append.mpr ⟨esn, (by decide), fun a ha b' hb' e => nAe (by have e2 : b' = [65] := List.mem_singleton.mp hb'; rw [← e2, ← e]; exact ha)⟩
        have dv6 : ∀ e ∈ (es ++ [([65], V.int 3)] : List (List Nat × V)), DV e.2 := fun e he => by
          rcases List.mem_append.mp he with he | he
          · exact esd e he
          · rw [List.mem_singleton.mp he]
            exact dv3
        have mm : ∀ k, k ∈ ((es ++ [([65], V.int 3)] : List (List Nat × V))).map (·.1) ↔ k ∈ es.map (·.1) ∨ k = [65] := fun k => by
          rw [List.map_append, List.mem_append]
          exact or_congr Iff.rfl List.mem_singleton
        walk_at "go"
        obtain ⟨ns, ar, hm⟩ := args_of (es := es ++ [([65], .int 3)]) h13v h13d (by rw [List.length_append]; show es.length + 1 < 64; omega) (by omega) (fun v hv => dv_okv (vdv v hv)) dv6 nd6
        refine ⟨t, va, .ref da, .unused (S [65]), rfl, ⟨dxt, lt, _, _, _, _, ns, h13t, .inl ⟨da, rfl, case_er ar nd6 (by omega) gp (er_unused nd6 dv6 hm vvb hk2 (fun k hk => (mm k).mpr (.inl ((esm k).mpr (by rw [← hk1]; exact hk)))) ((mm _).mpr (.inr rfl)) (fun z => nA _ ((lsm _).mpr (by rw [← hk1]; exact z)) rfl) fun k hk n => ?_)⟩⟩, (fun _ z => nomatch z), fun p5 H14 hp5 h14p s14 => ?_⟩
        · rw [hk1]
          exact (esm k).mp (((mm k).mp hk).elim id fun z => absurd z n)
        have h14p : H14 p5 = some (.tup [.str "unused", .str (S [65])]) := h14p
        walk_at "go"
        intro p6 hp6
        have s15 : Same H14 (upd H14 p6 (.tup [.str "unused", .str (S [65])])) := fun c o e => Eg.upd_old e hp6
        have h15p : upd H14 p6 (.tup [.str "unused", .str (S [65])]) p6 = some (.tup [.str "unused", .str (S [65])]) := upd_same
        generalize upd H14 p6 (.tup [.str "unused", .str (S [65])]) = H15 at s15 h15p ⊢
        refine c_eqOth (s15 _ _ h14p) h15p (tp_oth unuS (by decide) fun z hz => ?_) ?_
        · rw [List.mem_singleton.mp hz]
          exact .str _ (by decide)
        exact q H15 (hb13.keep (s14.trans s15)) (k013.trans (.of (s14.trans s15)))
end
end LW
end

section
local macro_rules | `(tactic| walk_at "tx") => `(tactic| first
  | with_reducible refine Ex.w_methKS ?_
  | with_reducible refine Co.w_makeS ?_
  | with_reducible refine Co.w_callOS ?_
  | with_reducible refine Co.c_callOS ?_
  | ((with_reducible refine' Co.c_callSA ?hs ?_); (case hs => walk_at "hp"))
  | with_reducible refine Ow.w_callO ?_
  | with_reducible refine Ow.c_callO ?_
  | ((with_reducible refine' Ow.c_callA ?hs ?_); (case hs => walk_at "hp"))
  | with_reducible refine Ex.w_callS ?_
  | with_reducible refine Ex.w_rs ?_
  | with_reducible refine Ex.w_xg ?_
  | with_reducible refine Xc.w_cmethS ?_
  | with_reducible refine Xh.w_callH ?_
  | with_reducible refine Xc.c_cmS ?_
  | with_reducible refine Pz.w_star ?_
  | ((with_reducible refine' Pz.c_starL ?hs ?_); (case hs => walk_at "hp"))
  | with_reducible refine Pz.w_mkR ?_
  | ((with_reducible refine' Pz.w_mkVar ?hs ?_); (case hs => exact rfl))
  | with_reducible refine Po.w_iSeq ?_
  | ((with_reducible refine' Co.c_ixF ?hs ?hv ?_); (case hs => assumption); (case hv => walk_at "at"))
  | ((with_reducible refine' Co.c_lenF ?hs ?_); (case hs => assumption)))
namespace LW
open PySem L2 SX Tx Tl Tc Rp
/-! a template called without arguments: its values are the default, a tuple of the frozen part -/
def sp_valued0 (K : PySem.W.Frag) : Sp := fun vs H Q _ => ∃ (va da : Addr) (ps : List Pp) (kvs : List (Key × V)), vs = [.str (S (tmpl ps)), .ref va, .ref da] ∧ Co.Fz K va (ps.filterMap valP) ∧ H da = some (.dK kvs) ∧ Few ps ∧ (∀ p ∈ ps, PpOk p) ∧ TabP ps kvs ∧
  ∀ (r : Addr) (H' : Hp), H r = none → CellsAt H' r (mergeP ps) → Same H H' → Q (.ref r) H'
def sp_Piece_of0 (K : PySem.W.Frag) (CP : Addr) : Sp := fun vs H Q _ => ∃ (va da : Addr) (ps : List Pp) (kvs : List (Key × V)), vs = [.ref CP, .str (S (tmpl ps)), .ref va, .ref da] ∧ Co.Fz K va (ps.filterMap valP) ∧ H da = some (.dK kvs) ∧ Few ps ∧ (∀ p ∈ ps, PpOk p) ∧ TabP ps kvs ∧
  ∀ (x : Addr) (H' : Hp), H x = none → PieceN CP H H' x (mergeP ps) "term" → Same H H' → Q (.ref x) H'
def sp_Template_call0 (K : PySem.W.Frag) (C CP : Addr) : Sp := fun vs H Q _ => ∃ (t dx lt : Addr) (n : Nat) (va : Addr) (ps : List Pp), vs = [.ref t, .ref va, .non] ∧ H t = some (.ins C dx (fldsT (tmpl ps) lt n)) ∧ Co.Fz K va (ps.filterMap valP) ∧ Few ps ∧ (∀ p ∈ ps, PpOk p) ∧ TabP ps [] ∧
  ∀ (x : Addr) (H' : Hp), H x = none → PieceN CP H H' x (mergeP ps) "term" → Same H H' → Q (.ref x) H'
section
variable {P : Program} {w : World} {K : PySem.W.Frag} {mg : Str → Option Value} {base : Heap} {Z : Ad}
set_option maxHeartbeats 8000000 in
theorem ok_valued0 (T : Txt K mg Z) : FnOk P w K mg base CX0 5 Z.a_valued Z.d_valued ["text", "values", "named"] (sp_valued0 K) := by
  refine T.F_valued.ok sc_valued (fun vs H Q E h => ?_) (fun cdv A outer s H vs Q E hr h => ?_)
  · obtain ⟨va, da, ps, kvs, rfl, _⟩ := h
    rfl
  · obtain ⟨va, da, ps, kvs, rfl, hva, hda, few, pok, tab, q⟩ := h
    have nd := sc_valued.nd
    have hu := hu_of hr
    refine ⟨_, (pss_cons (ps_set (i := 3) nd rfl (Or.inl rfl) (pe_call (ok_read_parts T) (hr.mono (by decide)) (by rfl) T.g_read_parts T.F_read_parts.kp T.b_read_parts .nil pass0 (pa_cons (pv 0) (pa_cons pe_str pa_nil))))
  (pss_cons (ps_for PassesOwn.never rfl (Po.pi_seq (pv 1)) (pg_name (i := 4) nd rfl (Or.inl rfl))
  (pss_one (ps_expr (pe_call (ok_check_value T) (hr.mono (by decide)) (by rfl) T.g_check_value T.F_check_value.kp T.b_check_value .nil pass0 (pa_cons (pv 4) pa_nil)))))
  (pss_cons (ps_for PassesOwn.never rfl (pi_list (pe_callB cr_sortedS (by rfl) T.u_sorted (by decide +kernel) (pa_cons (pe_callTy (Mk.cr_listE rfl) (by rfl) T.u_list (by decide +kernel) (pa_cons (pv 2) pa_nil)) pa_nil))) (pg_name (i := 5) nd rfl (Or.inl rfl))
  (pss_one (ps_expr (pe_call (ok_check_value T) (hr.mono (by decide)) (by rfl) T.g_check_value T.F_check_value.kp T.b_check_value .nil pass0 (pa_cons (pe_dget hu (pv 2) (pv 5) (fun _ _ => rfl)) pa_nil)))))
  (pss_cons (ps_setLc (i := 7) (own := [("part", 6)]) rfl nd rfl rfl (sw_true rfl rfl rfl (by decide +kernel)) (pi_list (pv 3)) (blkOk_by (N := N_valued) (sc := defScope s_valued) (by decide +kernel)) (fun _ _ _ _ _ => (pg_name (i := 6) nd rfl (Or.inl rfl))) (fun _ _ _ _ _ => (Eg.ptsE (pts_one (PW.pt (pw_and (pt_cmpR op_eq (pe_ix ix_tup (pv 6) pe_int (fun _ _ => rfl)) pe_str (nomark _)) (pw_and1 (pt_cmpR op_ne (pe_ix ix_tup (pv 6) pe_int (fun _ _ => rfl)) pe_str (nomark _)))))) (by walk_at "blk"))) (fun _ _ _ _ _ => (Eg.peE (pe_ix ix_tup (pv 6) pe_int (fun _ _ => rfl)) (by walk_at "blk"))))
  (pss_cons (ps_set (i := 8) nd rfl (Or.inl rfl) (pe_op op_sub (pe_callB Eg.cr_len (by rfl) T.u_len (by decide +kernel) (pa_cons (pe_lc (own := [("part", 6)]) rfl nd (pi_list (pv 3)) (blkOk_by (N := N_valued) (sc := defScope s_valued) (by decide +kernel)) (fun _ _ _ _ _ => (pg_name (i := 6) nd rfl (Or.inl rfl))) (fun _ _ _ _ _ => (Eg.ptsE (pts_one (pt_cmpR op_eq (pe_ix ix_tup (pv 6) pe_int (fun _ _ => rfl)) pe_str (nomark _))) (by walk_at "blk"))) (fun _ _ _ _ _ => (Eg.peE (pv 6) (by walk_at "blk")))) pa_nil)) (pe_callB Eg.cr_len (by rfl) T.u_len (by decide +kernel) (pa_cons (pv 7) pa_nil))))
  (pss_cons (ps_if (pt_cmpR op_ne (pv 8) (pe_callB Eg.cr_len (by rfl) T.u_len (by decide +kernel) (pa_cons (pv 1) pa_nil)) (nomark _))
  (pss_one Tw.ps_dead)
  pss_nil)
  (pss_cons (ps_for PassesOwn.never rfl (pi_list (pv 7)) (pg_name (i := 9) nd rfl (Or.inl rfl))
  (pss_one (ps_if (pt_cmp (pc_dnotin hu (pv 9) (pv 2)))
  (pss_one Tw.ps_dead)
  pss_nil)))
  (pss_cons (ps_for PassesOwn.never rfl (pi_list (pe_callB cr_sortedS (by rfl) T.u_sorted (by decide +kernel) (pa_cons (pe_callTy (Mk.cr_listE rfl) (by rfl) T.u_list (by decide +kernel) (pa_cons (pv 2) pa_nil)) pa_nil))) (pg_name (i := 5) nd rfl (Or.inl rfl))
  (pss_one (ps_if (pt_cmpR op_notIn_seq (pv 5) (pv 7) (by rfl))
  (pss_one Tw.ps_dead)
  pss_nil)))
  (pss_cons (ps_set (i := 10) nd rfl (Or.inl rfl) (pe_lst pa_nil))
  (pss_cons (ps_set (i := 11) nd rfl (Or.inl rfl) pe_int)
  (pss_cons (ps_for PassesOwn.never rfl (pi_list (pv 3)) (pg_name (i := 6) nd rfl (Or.inl rfl))
  (pss_one (ps_if (pt_cmpR op_eq (pe_ix ix_tup (pv 6) pe_int (fun _ _ => rfl)) pe_str (nomark _))
  (pss_one (ps_expr (pe_bm PySem.F.plainAttrs_list PySem.F.slot_list_append PySem.F.type_list_append mt_append (pv 10) (pa_cons (pv 6) pa_nil))))
  (pss_one (ps_if (pt_cmpR op_ne (pe_ix ix_tup (pv 6) pe_int (fun _ _ => rfl)) pe_str (nomark _))
  (pss_one (ps_expr (pe_bm PySem.F.plainAttrs_list PySem.F.slot_list_append PySem.F.type_list_append mt_append (pv 10) (pa_cons (pe_tup (pa_cons pe_str (pa_cons (pe_ix ix_tup (pv 6) pe_int (fun _ _ => rfl)) (pa_cons (pe_dget hu (pv 2) (pe_ix ix_tup (pv 6) pe_int (fun _ _ => rfl)) (fun _ _ => rfl)) pa_nil)))) pa_nil))))
  (pss_cons (ps_expr (pe_bm PySem.F.plainAttrs_list PySem.F.slot_list_append PySem.F.type_list_append mt_append (pv 10) (pa_cons (pe_tup (pa_cons pe_str (pa_cons pe_str (pa_cons (pe_ix Po.ix_seq (pv 1) (pv 11) (fun _ _ => rfl)) pa_nil)))) pa_nil)))
  (pss_one (ps_set (i := 11) nd rfl (Or.inl rfl) (pe_op op_add (pv 11) pe_int)))))))))
  (pss_one (ps_ret (pv 10)))))))))))))), ?_⟩
    refine Eg.w_sig (σ := [some (.str (S (tmpl ps))), some (.ref va), some (.ref da), none, none, none, none, none, none, none, none, none]) rfl ?_
    have vlen : (ps.filterMap valP).length ≤ ps.length := List.length_filterMap_le _ _
    have f1 := few.1
    walk_at "go"
    refine ⟨tokP ps, "template", by rw [flat_tokP]; rfl, by rw [flat_tokP]; exact few.2, tok_ok pok, fun pa ys H1 hpa h1p py s1 => ?_⟩
    rw [read_tokP] at py
    have h1v := hva
    have h1d := s1 _ _ hda
    have ylen := py.len
    rw [List.length_map] at ylen
    have mlen := mergeP_len ps
    walk_at "go"
    refine Co.for_seqF h1v (fun j σ' H' => ∃ v4 : Option V, σ' = [some (.str (S (tmpl ps))), some (.ref va), some (.ref da), some (.ref pa), v4, none, none, none, none, none, none, none] ∧ H1 = H') ⟨none, rfl, rfl⟩ ?_ ?_ ?_
    · rintro j _ _ ⟨v4, rfl, rfl⟩ o e
      exact e
    · rintro j x _ _ hx ⟨v4, rfl, rfl⟩
      have hv := vals_ok pok (List.mem_of_getElem? hx)
      walk_at "go"
      refine ⟨x, rfl, hv, ?_⟩
      walk_at "go"
      exact ⟨_, rfl, rfl⟩
    rintro _ _ ⟨v4, rfl, rfl⟩
    obtain ⟨zs, hzs⟩ := tab.strs
    have kz : (kvs.map fun kv => kV kv.1) = zs.map V.str := by
      have := congrArg (List.map kV) hzs
      rw [List.map_map, List.map_map] at this
      exact this
    have zl : zs.length = kvs.length := by
      have := congrArg List.length hzs
      rw [List.length_map, List.length_map] at this
      exact this.symm
    have fewk := tab.few
    walk_at "go"
    refine Mk.c_listD h1d fun L hL => ?_
    rw [kz]
    have h2L : upd H1 L (.lst (zs.map V.str)) L = some (.lst (zs.map V.str)) := upd_same
    have s2 : Same H1 (upd H1 L (.lst (zs.map V.str))) := fun c o e => Eg.upd_old e hL
    generalize upd H1 L (.lst (zs.map V.str)) = H2 at h2L s2 ⊢
    walk_at "go"
    refine ⟨L, zs, rfl, SqL.of h2L, by omega, fun ms M pm srt hM => ?_⟩
    have h3M : upd H2 M (.lst (ms.map V.str)) M = some (.lst (ms.map V.str)) := upd_same
    have s3 : Same H2 (upd H2 M (.lst (ms.map V.str))) := fun c o e => Eg.upd_old e hM
    generalize upd H2 M (.lst (ms.map V.str)) = H3 at h3M s3 ⊢
    have s13 := s2.trans s3
    have h3d := s13 _ _ h1d
    have h3v := h1v
    have h3p := s13 _ _ h1p
    have getv : ∀ z ∈ ms, ∃ v, valV kvs (.inr z) = some v ∧ IsVal v := fun z hz => tab.get (by rw [hzs]; exact List.mem_map.mpr ⟨z, pm.mem_iff.mp hz, rfl⟩)
    walk_at "go"
    refine for_list (xs := ms.map V.str) (fun j σ' H' => ∃ v5 : Option V, σ' = [some (.str (S (tmpl ps))), some (.ref va), some (.ref da), some (.ref pa), v4, v5, none, none, none, none, none, none] ∧ H3 = H') ⟨none, rfl, rfl⟩ ?_ ?_ ?_
    · rintro j _ _ _ ⟨v5, rfl, rfl⟩
      exact SqL.of h3M
    · rintro j x _ _ hx ⟨v5, rfl, rfl⟩
      obtain ⟨z, hz, rfl⟩ := List.mem_map.mp (List.mem_of_getElem? hx)
      obtain ⟨v, hv, vv⟩ := getv z hz
      have dg := Tw.dgetK (k := .inr z) (.inl h3d)
      rw [hv] at dg
      walk_at "go"
      refine ⟨da, v, rfl, dg, ?_⟩
      walk_at "go"
      refine ⟨v, rfl, vv, ?_⟩
      walk_at "go"
      exact ⟨_, rfl, rfl⟩
    rintro _ _ ⟨v5, rfl, rfl⟩
    obtain ⟨L0, hL1, hL2, hL3⟩ := pairs_of py
    have L0l : L0.length = (mergeP ps).length := by rw [← hL2, List.length_map]
    rw [hL1] at h3p
    have h3t : ∀ q ∈ L0, H3 q.1 = some (.tup (hk q.2).vs) := fun q hq => s13 _ _ (hL3 q hq)
    clear h2L h3M hL s2 s3 hM hL3 h1v h1d h1p
    walk_at "gw"
    refine fm_list (xs := L0) (G := fun q => .ref q.1) (F := fun q => .str (S ((labP q.2).getD []))) (P := fun q => (labP q.2).isSome) h3p (by omega) (fun R h => ?_) (fun H' z R s' hz h => ?_) (fun H' z R s' hz hp h => ?_) (fun LA H4 hLA s4 h4 => ?_)
    · walk_at "go"
      exact h
    · obtain ⟨t', c⟩ := z
      have ht := s' _ _ (h3t _ hz)
      cases c with
      | inl l =>
        have ht : H' t' = some (.tup [.str "say", .str (S l)]) := ht
        walk_at "gw"
        rw [d_sh']
        walk_at "gw"
        exact h _ (Same.refl _)
      | inr x =>
        obtain ⟨k, v⟩ := x
        have ht : H' t' = some (.tup [.str "hole", .str (S k)]) := ht
        walk_at "gw"
        rw [decide_eq_true (rfl : V.str "hole" = V.str "hole")]
        walk_at "gw"
        rw [str_emp]
        cases k with
        | nil => exact h _ (Same.refl _)
        | cons c k => exact h _ (Same.refl _)
    · obtain ⟨t', c⟩ := z
      have ht := s' _ _ (h3t _ hz)
      cases c with
      | inl l => cases hp
      | inr x =>
        obtain ⟨k, v⟩ := x
        have ht : H' t' = some (.tup [.str "hole", .str (S k)]) := ht
        walk_at "go"
        cases k with
        | nil => cases hp
        | cons c k => exact h _ (Same.refl _)
    have labs : (L0.filter fun q => (labP q.2).isSome).map (fun q => V.str (S ((labP q.2).getD []))) = (((mergeP ps).filterMap labP).map fun k => (.inr (S k) : Key)).map kV := by
      rw [← hL2]
      exact labs_eq L0
    rw [labs] at h4
    have h4p := s4 _ _ h3p
    have h4t : ∀ q ∈ L0, H4 q.1 = some (.tup (hk q.2).vs) := fun q hq => s4 _ _ (h3t q hq)
    clear h3p h3t
    walk_at "gw"
    refine fm_list (xs := L0) (G := fun q => .ref q.1) (F := fun q => .ref q.1) (P := fun q => holeP q.2) h4p (by omega) (fun R h => ?_) (fun H' z R s' hz h => ?_) (fun H' z R s' hz hp h => ?_) (fun LB H5 hLB s5 h5 => ?_)
    · walk_at "go"
      exact h
    · obtain ⟨t', c⟩ := z
      have ht := s' _ _ (h4t _ hz)
      cases c with
      | inl l =>
        have ht : H' t' = some (.tup [.str "say", .str (S l)]) := ht
        walk_at "go"
        rw [d_sh']
        exact h _ (Same.refl _)
      | inr x =>
        obtain ⟨k, v⟩ := x
        have ht : H' t' = some (.tup [.str "hole", .str (S k)]) := ht
        walk_at "go"
        rw [decide_eq_true (rfl : V.str "hole" = V.str "hole")]
        exact h _ (Same.refl _)
    · walk_at "go"
      exact h _ (Same.refl _)
    have h5A := s5 _ _ h4
    have h5v := h3v
    walk_at "gw"
    have cnt : (((((L0.filter fun q => holeP q.2).map fun q => V.ref q.1).length : Nat) : Int) - (((((mergeP ps).filterMap labP).map fun k => (.inr (S k) : Key)).map kV).length : Nat)) = ((ps.filterMap valP).length : Nat) := by
      have e1 : (L0.filter fun q => holeP q.2).length = ((mergeP ps).filter holeP).length := by
        rw [← hL2, List.filter_map, List.length_map]
        rfl
      have e2 := holes_count (mergeP ps)
      rw [mergeP_val] at e2
      rw [List.length_map, List.length_map, List.length_map, e1]
      omega
    rw [cnt, decide_eq_true rfl]
    have h5d := s5 _ _ (s4 _ _ h3d)
    have labk : ∀ k ∈ ((mergeP ps).filterMap labP).map (fun k => (.inr (S k) : Key)), ∃ v, valV kvs k = some v := fun k hk => by
      obtain ⟨l, hl, rfl⟩ := List.mem_map.mp hk
      rw [mergeP_lab] at hl
      exact tab.lab hl
    walk_at "go"
    refine for_list (xs := (((mergeP ps).filterMap labP).map fun k => (.inr (S k) : Key)).map kV) (fun j σ' H' => ∃ v9 : Option V, σ' = [some (.str (S (tmpl ps))), some (.ref va), some (.ref da), some (.ref pa), v4, v5, none, some (.ref LA), some (.int ((ps.filterMap valP).length : Nat)), v9, none, none] ∧ H5 = H') ⟨none, ?_, rfl⟩ ?_ ?_ ?_
    · rfl
    · rintro j _ _ _ ⟨v9, rfl, rfl⟩
      exact SqL.of h5A
    · rintro j x _ _ hx ⟨v9, rfl, rfl⟩
      obtain ⟨k, hk', rfl⟩ := List.mem_map.mp (List.mem_of_getElem? hx)
      obtain ⟨v, hv⟩ := labk k hk'
      have dg := Tw.dgetK (k := k) (.inl h5d)
      rw [hv] at dg
      walk_at "go"
      refine ⟨da, _, rfl, dg, ?_⟩
      walk_at "go"
      refine Eg.brF rfl ?_
      walk_at "go"
      exact ⟨_, rfl, rfl⟩
    rintro _ _ ⟨v9, rfl, rfl⟩
    walk_at "go"
    refine Mk.c_listD h5d fun L2 hL2' => ?_
    rw [kz]
    have h6L : upd H5 L2 (.lst (zs.map V.str)) L2 = some (.lst (zs.map V.str)) := upd_same
    have s6 : Same H5 (upd H5 L2 (.lst (zs.map V.str))) := fun c o e => Eg.upd_old e hL2'
    generalize upd H5 L2 (.lst (zs.map V.str)) = H6 at h6L s6 ⊢
    walk_at "go"
    refine ⟨L2, zs, rfl, SqL.of h6L, by omega, fun ms2 M2 pm2 srt2 hM2 => ?_⟩
    have h7M : upd H6 M2 (.lst (ms2.map V.str)) M2 = some (.lst (ms2.map V.str)) := upd_same
    have s7 : Same H6 (upd H6 M2 (.lst (ms2.map V.str))) := fun c o e => Eg.upd_old e hM2
    generalize upd H6 M2 (.lst (ms2.map V.str)) = H7 at h7M s7 ⊢
    have s57 := s6.trans s7
    have h7A := s57 _ _ h5A
    have h7v := h5v
    have h7d := s57 _ _ h5d
    have h7p := s57 _ _ (s5 _ _ h4p)
    have h7t : ∀ q ∈ L0, H7 q.1 = some (.tup (hk q.2).vs) := fun q hq => s57 _ _ (s5 _ _ (h4t q hq))
    have s07 : Same H H7 := ((((s1.trans s13).trans s4).trans s5).trans s57)
    clear h6L h5A h5v h5d h4p h4t h4 h3v h3d h5 hL2' hM2 s6 s7
    walk_at "go"
    refine for_list (xs := ms2.map V.str) (fun j σ' H' => ∃ v5 : Option V, σ' = [some (.str (S (tmpl ps))), some (.ref va), some (.ref da), some (.ref pa), v4, v5, none, some (.ref LA), some (.int ((ps.filterMap valP).length : Nat)), v9, none, none] ∧ H7 = H') ⟨v5, rfl, rfl⟩ ?_ ?_ ?_
    · rintro j _ _ _ ⟨v5, rfl, rfl⟩
      exact SqL.of h7M
    · rintro j x _ _ hx ⟨v5, rfl, rfl⟩
      obtain ⟨z, hz, rfl⟩ := List.mem_map.mp (List.mem_of_getElem? hx)
      have zin : (.inr z : Key) ∈ ((mergeP ps).filterMap labP).map (fun k => (.inr (S k) : Key)) := by
        rw [mergeP_lab]
        exact tab.inl (by rw [hzs]; exact List.mem_map.mpr ⟨z, pm2.mem_iff.mp hz, rfl⟩)
      walk_at "go"
      refine Tw.c_notIn (k := .inr z) h7A ?_
      rw [decide_eq_true zin]
      walk_at "go"
      exact ⟨_, rfl, rfl⟩
    rintro _ _ ⟨v5, rfl, rfl⟩
    walk_at "go"
    intro F hF
    have fresh : ∀ c o, H7 c = some o → c ≠ F := fun c o e => ne_of_none e hF
    have h0F : H F = none := s07.free hF
    walk_at "go"
    refine for_list (xs := L0.map fun q => V.ref q.1) (fun j σ' H' => ∃ (v6 : Option V) (xs : List V), σ' = [some (.str (S (tmpl ps))), some (.ref va), some (.ref da), some (.ref pa), v4, v5, v6, some (.ref LA), some (.int ((ps.filterMap valP).length : Nat)), v9, some (.ref F), some (.int ((((mergeP ps).take j).filterMap valP).length : Nat))] ∧ H' F = some (.lst xs) ∧ PcsAt H' xs (((mergeP ps).take j).map pp) ∧ Same H7 H') ⟨none, [], rfl, upd_same, .nil, fun c o e => Eg.upd_old e hF⟩ ?_ ?_ ?_
    · rintro j _ H8 _ ⟨v6, xs, rfl, _, _, s8⟩
      exact SqL.of (s8 _ _ h7p)
    rotate_left
    · rintro _ H8 ⟨v6, xs, rfl, h8F, px, s8⟩
      rw [List.length_map, L0l, List.take_length] at px
      walk_at "go"
      exact q F H8 h0F ⟨xs, h8F, px⟩ (s07.trans s8)
    rintro j x _ H8 hx ⟨v6, xs, rfl, h8F, px, s8⟩
    rw [List.getElem?_map] at hx
    obtain ⟨⟨t', c⟩, hz, rfl⟩ := Option.map_eq_some_iff.mp hx
    have ht := s8 _ _ (h7t _ (List.mem_of_getElem? hz))
    have hc : (mergeP ps)[j]? = some c := by rw [← hL2, List.getElem?_map, hz]; rfl
    obtain ⟨hlt, he⟩ := List.getElem?_eq_some_iff.mp hc
    have tk : (mergeP ps).take (j + 1) = (mergeP ps).take j ++ [c] := by rw [List.take_succ_eq_append_getElem hlt, he]
    have pxl := px.len
    rw [List.length_map, List.length_take] at pxl
    have keepF : ∀ {H9 : Hp} {ys : List V}, Same H8 H9 → Same H7 (upd H9 F (.lst ys)) := fun s9 c o e => Eg.upd_mut (fresh c o e) (s9 _ _ (s8 c o e))
    cases c with
    | inl l =>
      have ht : H8 t' = some (.tup [.str "say", .str (S l)]) := ht
      walk_at "go"
      rw [decide_eq_true (rfl : V.str "say" = V.str "say")]
      walk_at "go"
      have fm : ((mergeP ps).take (j + 1)).filterMap valP = ((mergeP ps).take j).filterMap valP := by
        rw [tk, List.filterMap_append]
        exact List.append_nil _
      refine ⟨some (.ref t'), xs ++ [.ref t'], by rw [fm]; rfl, upd_same, ?_, keepF (Same.refl _)⟩
      rw [tk, List.map_append]
      exact PcsAt.app (px.same fun b zs e => Eg.upd_mut (ne_of e h8F (fun z => nomatch z)) e) (PcsAt.one (p := pp (.inl l)) (Eg.upd_mut (ne_of ht h8F (fun z => nomatch z)) ht))
    | inr x =>
      obtain ⟨k, v⟩ := x
      have ht : H8 t' = some (.tup [.str "hole", .str (S k)]) := ht
      walk_at "go"
      rw [decide_eq_false (show ¬ V.str "hole" = V.str "say" from fun z => absurd (V.str.inj z) (by decide +kernel))]
      walk_at "go"
      rw [str_emp]
      have fin : ∀ (H9 : Hp) (tt : Addr), Same H8 H9 → H9 tt = some (.tup [.str "hole", .str (S k), v]) → H9 F = some (.lst xs) → upd H9 F (.lst (xs ++ [.ref tt])) F = some (.lst (xs ++ [.ref tt])) ∧ PcsAt (upd H9 F (.lst (xs ++ [.ref tt]))) (xs ++ [.ref tt]) (((mergeP ps).take (j + 1)).map pp) ∧ Same H7 (upd H9 F (.lst (xs ++ [.ref tt]))) := fun H9 tt s9 h9t h9F => by
        refine ⟨upd_same, ?_, keepF s9⟩
        rw [tk, List.map_append]
        exact PcsAt.app (px.same fun b zs e => Eg.upd_mut (ne_of (s9 _ _ e) h9F (fun z => nomatch z)) (s9 _ _ e)) (PcsAt.one (p := pp (.inr (k, v))) (Eg.upd_mut (ne_of h9t h9F (fun z => nomatch z)) h9t))
      have h8v := h7v
      have h8d := s8 _ _ h7d
      cases k with
      | nil =>
        rw [show decide (([] : List Nat) = []) = true from rfl]
        have hv : atI (ps.filterMap valP) (((((mergeP ps).take j).filterMap valP).length : Nat) : Int) = some v := by
          refine atI_nat ?_
          have e : (mergeP ps).filterMap valP = ((mergeP ps).take j).filterMap valP ++ v :: ((mergeP ps).drop (j + 1)).filterMap valP := by
            conv => lhs; rw [← List.take_append_drop j (mergeP ps), List.drop_eq_getElem_cons hlt, he]
            rw [List.filterMap_append]
            rfl
          rw [← mergeP_val, e, List.getElem?_append_right (Nat.le_refl _), Nat.sub_self]
          rfl
        walk_at "go"
        intro tt htt
        have e0 : ("" : Str) = S [] := by decide +kernel
        have h9t : upd H8 tt (.tup [.str "hole", .str "", v]) tt = some (.tup [.str "hole", .str (S []), v]) := by rw [upd_same, e0]
        have s9 : Same H8 (upd H8 tt (.tup [.str "hole", .str "", v])) := fun c o e => Eg.upd_old e htt
        have h9F := s9 _ _ h8F
        generalize upd H8 tt (.tup [.str "hole", .str "", v]) = H9 at h9t s9 h9F ⊢
        have fm : ((mergeP ps).take (j + 1)).filterMap valP = ((mergeP ps).take j).filterMap valP ++ [v] := by
          rw [tk, List.filterMap_append]
          rfl
        obtain ⟨g1, g2, g3⟩ := fin H9 tt s9 h9t h9F
        walk_at "go"
        refine ⟨some (.ref t'), xs ++ [.ref tt], ?_, g1, g2, g3⟩
        rw [fm, List.length_append]
        rfl
      | cons c k =>
        rw [show decide ((c :: k : List Nat) = []) = false from decide_eq_false (fun z => nomatch z)]
        have dg := Tw.dgetK (k := .inr (S (c :: k))) (.inl h8d)
        rw [tab.has c k v (merge_mem (List.mem_of_getElem? hc))] at dg
        walk_at "go"
        refine ⟨da, v, rfl, dg, ?_⟩
        walk_at "go"
        intro tt htt
        have h9t : upd H8 tt (.tup [.str "hole", .str (S (c :: k)), v]) tt = some (.tup [.str "hole", .str (S (c :: k)), v]) := upd_same
        have s9 : Same H8 (upd H8 tt (.tup [.str "hole", .str (S (c :: k)), v])) := fun c o e => Eg.upd_old e htt
        have h9F := s9 _ _ h8F
        generalize upd H8 tt (.tup [.str "hole", .str (S (c :: k)), v]) = H9 at h9t s9 h9F ⊢
        have fm : ((mergeP ps).take (j + 1)).filterMap valP = ((mergeP ps).take j).filterMap valP := by
          rw [tk, List.filterMap_append]
          exact List.append_nil _
        obtain ⟨g1, g2, g3⟩ := fin H9 tt s9 h9t h9F
        walk_at "go"
        refine ⟨some (.ref t'), xs ++ [.ref tt], ?_, g1, g2, g3⟩
        rw [fm]
        rfl
theorem ok_Piece_of0 (T : Txt K mg Z) : FnOk P w K mg base CX0 9 Z.a_Piece_of Z.d_Piece_of ["cls", "text", "values", "table"] (sp_Piece_of0 K Z.c_Piece) := by
  refine T.F_Piece_of.ok sc_Piece_of (fun vs H Q E h => ?_) (fun cdv A outer s H vs Q E hr h => ?_)
  · obtain ⟨va, da, ps, kvs, rfl, _⟩ := h
    rfl
  · obtain ⟨va, da, ps, kvs, rfl, hva, hda, few, pok, tab, q⟩ := h
    refine ⟨_, (pss_one (ps_ret (Pz.pe_mkVar (i := 0) T.mk_Piece (ok_Piece_init T) (hr.mono (by decide)) rfl (Or.inl rfl) pass0 (pa_cons (pe_make T.mk_Made (ok_Made_init T) (hr.mono (by decide)) (by rfl) T.g_Made T.b_Made_init .nil pass0 (pa_cons (pe_call (ok_valued0 T) (hr.mono (by decide)) (by rfl) T.g_valued T.F_valued.kp T.b_valued .nil pass0 (pa_cons (pv 1) (pa_cons (pv 2) (pa_cons (pv 3) pa_nil)))) (pa_cons pe_str pa_nil))) pa_nil)))), ?_⟩
    refine Eg.w_sig (σ := [some (.ref Z.c_Piece), some (.str (S (tmpl ps))), some (.ref va), some (.ref da)]) rfl ?_
    walk_at "go"
    refine ⟨va, da, ps, kvs, rfl, hva, hda, few, pok, tab, fun r H1 hr0 h1 s1 => ?_⟩
    walk_at "go"
    refine mk_made h1 few.merge.1 fun m H2 hm0 h2 s2 => ?_
    walk_at "go"
    refine mk_piece h2 few.merge fun x H3 hx h3 s3 => ?_
    rw [mergeP_idem] at h3
    exact q x H3 ((s1.trans s2).free hx) (h3.back (s1.trans s2)) ((s1.trans s2).trans s3)
set_option maxHeartbeats 8000000 in
theorem ok_Template_call0 (T : Txt K mg Z) : FnOk P w K mg base CX0 10 Z.a_Template_call Z.d_Template_call ["self", "values", "table"] (sp_Template_call0 K Z.c_Template Z.c_Piece) := by
  refine T.F_Template_call.ok sc_Template_call (fun vs H Q E h => ?_) (fun cdv A outer s H vs Q E hr h => ?_)
  · obtain ⟨t, dx, lt, n, va, ps, rfl, _⟩ := h
    rfl
  · obtain ⟨t, dx, lt, n, va, ps, rfl, ht, hva, few, pok, tab, q⟩ := h
    have nd := sc_Template_call.nd
    have cT := T.cl_Template
    have n1 := T.n_Template_text
    refine ⟨_, (pss_one (ps_ret (ClX.pe_cmeth (pe_glob (v := .ref Z.c_Piece) (by rfl) T.g_Piece rfl) T.cr_Piece T.cm_Piece_of ((ok_Piece_of0 T).raw T.b_Piece_of .nil) (hr.mono (by decide)) pass0 (pa_cons (pe_fld (pv 0) rfl) (pa_cons (pv 1) (pa_cons (pe_ifExp (pt_cmpR Eg.opr_isN (pv 2) pe_non (nomark _)) pe_dnewK (pv 2)) pa_nil)))))), ?_⟩
    refine Eg.w_sig (σ := [some (.ref t), some (.ref va), some .non]) rfl ?_
    walk_at "go"
    refine ⟨rfl, ?_⟩
    walk_at "go"
    rw [if_pos (decide_eq_true rfl)]
    walk_at "go"
    intro da hda
    have s1 : Same H (upd H da (.dK [])) := fun c o e => Eg.upd_old e hda
    have h1 : upd H da (.dK []) da = some (.dK []) := upd_same
    generalize upd H da (.dK []) = H1 at s1 h1 ⊢
    walk_at "go"
    exact ⟨va, da, ps, [], rfl, hva, h1, few, pok, tab, fun x H' hx p s => q x H' (s1.free hx) (p.back s1) (s1.trans s)⟩
end
end LW
end

section
local macro_rules | `(tactic| walk_at "tx") => `(tactic| first
  | with_reducible refine Ex.w_methKS ?_
  | with_reducible refine Co.w_makeS ?_
  | with_reducible refine Co.w_callOS ?_
  | with_reducible refine Co.c_callOS ?_
  | ((with_reducible refine' Co.c_callSA ?hs ?_); (case hs => walk_at "hp"))
  | with_reducible refine Ow.w_callO ?_
  | with_reducible refine Ow.c_callO ?_
  | ((with_reducible refine' Ow.c_callA ?hs ?_); (case hs => walk_at "hp"))
  | with_reducible refine Ex.w_callS ?_
  | with_reducible refine Ex.w_rs ?_
  | with_reducible refine Ex.w_xg ?_
  | with_reducible refine Xc.w_cmethS ?_
  | with_reducible refine Xh.w_callH ?_
  | with_reducible refine Xc.c_cmS ?_
  | with_reducible refine Pz.w_star ?_
  | ((with_reducible refine' Pz.c_starL ?hs ?_); (case hs => walk_at "hp"))
  | with_reducible refine Pz.w_mkR ?_
  | ((with_reducible refine' Pz.w_mkVar ?hs ?_); (case hs => exact rfl))
  | with_reducible refine Po.w_iSeq ?_
  | ((with_reducible refine' Po.c_ixA ?hs ?hv ?_); (case hs => assumption); (case hv => walk_at "at"))
  | ((with_reducible refine' Po.c_lenA ?hs ?_); (case hs => assumption)))
namespace LW
open PySem L2 SX Tx Tl Tc Rp
/-! law k11 -/
theorem mk_tmpl {CT : Addr} {H : Hp} {Q : VK} {ps : List Pp} (few : Few ps) (gp : ∀ p ∈ ps, Gp p) (q : ∀ (x : Addr) (H' : Hp), H x = none → TmplAt CT H' x ps → Same H H' → Q (.ref x) H') : Eg.makeLeaf CT (sp_Template_init CT) [] E0 Q [.str (S (tmpl ps))] H := by
  intro x dx hx hdx hne
  have sx : Same H (upd (upd H dx (.own x)) x (.ins CT dx [])) := fun c o e => Eg.upd_mut (ne_of_none e hx) (Eg.upd_old e hdx)
  refine ⟨x, dx, ps, rfl, upd_same, few, gp, fun t H' _ hm ht kp => ⟨rfl, ?_⟩⟩
  have s2 : Same H H' := fun c o e => kp c o (sx _ _ e) (ne_of_none e hx)
  exact q x H' hx ⟨dx, t, hm, ht⟩ s2
def RowsAt (M : List Addr) (H : Hp) (xs : List V) (L : List (List Pp)) : Prop := Paired (fun v ps => ∃ c, v = V.ref c ∧ CellsF M H c ps) xs L
def TmplsAt (C : Addr) (H : Hp) (xs : List V) (L : List (List Pp)) : Prop := Paired (fun v ps => ∃ t, v = V.ref t ∧ TmplAt C H t ps) xs L
def PcsF (M : List Addr) (C : Addr) (H : Hp) (xs : List V) (L : List (List Pp)) : Prop := Paired (fun v ps => ∃ x, v = V.ref x ∧ PieceF M C H x (ps, "term")) xs L
theorem RowsAt.km {M : List Addr} {H H' : Hp} {xs : List V} {L : List (List Pp)} (m : ML M H) (k : KM M H H') (h : RowsAt M H xs L) : RowsAt M H' xs L := Paired.mapP h fun _ _ ⟨c, e, d⟩ => ⟨c, e, d.km m k⟩
theorem TmplAt.km {M : List Addr} {C : Addr} {H H' : Hp} {a : Addr} {ps : List Pp} (m : ML M H) (k : KM M H H') (h : TmplAt C H a ps) : TmplAt C H' a ps := let ⟨dx, t, h1, h2⟩ := h; ⟨dx, t, k _ _ h1 (m.ins h1), k _ _ h2 (m.tup h2)⟩
theorem TmplsAt.km {M : List Addr} {C : Addr} {H H' : Hp} {xs : List V} {L : List (List Pp)} (m : ML M H) (k : KM M H H') (h : TmplsAt C H xs L) : TmplsAt C H' xs L := Paired.mapP h fun _ _ ⟨c, e, d⟩ => ⟨c, e, d.km m k⟩
theorem PcsF.km {M : List Addr} {C : Addr} {H H' : Hp} {xs : List V} {L : List (List Pp)} (m : ML M H) (k : KM M H H') (h : PcsF M C H xs L) : PcsF M C H' xs L := Paired.mapP h fun _ _ ⟨c, e, d⟩ => ⟨c, e, d.km m k⟩
theorem CellsF.add {M : List Addr} {H : Hp} {c y : Addr} {ps : List Pp} (h : CellsF M H c ps) (hy : H y = none) : CellsF (y :: M) H c ps := by
  obtain ⟨n, ys, h1, h2⟩ := h
  refine ⟨fun z => ?_, ys, h1, h2⟩
  rcases List.mem_cons.mp z with rfl | z
  · rw [h1] at hy
    cases hy
  · exact n z
theorem CellsF.at_ {M : List Addr} {H : Hp} {c : Addr} {ps : List Pp} (h : CellsF M H c ps) : CellsAt H c ps := h.2
theorem RowsAt.add {M : List Addr} {H : Hp} {xs : List V} {y : Addr} {L : List (List Pp)} (h : RowsAt M H xs L) (hy : H y = none) : RowsAt (y :: M) H xs L := Paired.mapP h fun _ _ ⟨c, e, d⟩ => ⟨c, e, d.add hy⟩
theorem KM.upd {M : List Addr} {H H' : Hp} {D : Addr} {o : HO} (k : KM M H H') (h : D ∈ M) : KM M H (upd H' D o) := fun c u e n => Eg.upd_mut (fun z => n (z ▸ h)) (k c u e n)
theorem ml2 {H : Hp} {b D : Addr} {xs : List V} (hb : BagB H b) (h : H D = some (.lst xs)) : ML [b, D] H := fun m hm => by
  rcases List.mem_cons.mp hm with rfl | hm
  · exact hb.ob
  · rw [List.mem_singleton.mp hm]
    exact ⟨_, h⟩
theorem ml3 {H : Hp} {b P D : Addr} {xs ys : List V} (hb : BagB H b) (hp : H P = some (.lst xs)) (h : H D = some (.lst ys)) : ML [D, P, b] H := fun m hm => by
  rcases List.mem_cons.mp hm with rfl | hm
  · exact ⟨_, h⟩
  · rcases List.mem_cons.mp hm with rfl | hm
    · exact ⟨_, hp⟩
    · rw [List.mem_singleton.mp hm]
      exact hb.ob
def GoodR (ps : List Pp) : Prop := (∀ p ∈ ps, Gp p) ∧ mergeP ps = ps ∧ ps.length ≤ 8 ∧ (tmpl ps).length ≤ 128
theorem GoodR.few {ps : List Pp} (h : GoodR ps) : Few ps := ⟨by have := h.2.2.1; omega, by have := h.2.2.2; omega⟩
theorem GoodR.shp {ps qs : List Pp} (h : GoodR ps) (e : qs.map strip = ps.map strip) (g : ∀ p ∈ qs, Gp p) : GoodR qs := ⟨g, shp_merge h.2.1 e, by rw [shp_len e]; exact h.2.2.1, by rw [shp_tmpl e]; exact h.2.2.2⟩
theorem TmplAt.shp {C : Addr} {H : Hp} {a : Addr} {ps qs : List Pp} (h : TmplAt C H a ps) (e : qs.map strip = ps.map strip) : TmplAt C H a qs := by
  obtain ⟨dx, t, h1, h2⟩ := h
  refine ⟨dx, t, ?_, ?_⟩
  · rw [shp_tmpl e, shp_vl e]
    exact h1
  · unfold labsT at h2 ⊢
    rw [shp_lab e]
    exact h2
theorem dn_strs {K : PySem.W.Frag} {H : Hp} : ∀ ls : List (List Nat), Rn.DnAll K H (ls.map fun l => V.str (S l)) (ls.map fun l => PyData.str (S l))
  | [] => .nil
  | l :: r => .cons (.str _) (dn_strs r)
def lpD (ls : List (List Nat)) (n : Nat) : PyData := .list [.tuple (ls.map fun l => .str (S l)), .int (n : Int)]
theorem okn_lp {ls : List (List Nat)} {n : Nat} (h8 : ls.length ≤ 8) (hl : ∀ l ∈ ls, l.length ≤ 14 ∧ ∀ c ∈ l, c < 128) (hn : n ≤ 10 ^ 6) : Rn.Okn 60 80000 (lpD ls n) := by
  have t : Rn.Okn 1 ((ls.map fun l => PyData.str (S l)).length * (14 + 1)) (.tuple (ls.map fun l => .str (S l))) := okn_tuple (k := 0) (N := 14) fun d hd => by
    obtain ⟨l, hl', rfl⟩ := List.mem_map.mp hd
    exact (okn_str (hl l hl').2).mono (Nat.le_refl _) (hl l hl').1
  rw [List.length_map] at t
  have t2 : Rn.Okn 2 5000 (.tuple (ls.map fun l => .str (S l))) := t.mono (by decide) (by omega)
  have i2 : Rn.Okn 2 5000 (.int (n : Int)) := (okn_int (big6 (by simpa using hn))).mono (by decide) (by decide)
  exact (okn_list (k := 2) (N := 5000) (ds := [_, _]) fun x hx => by
    simp only [List.mem_cons, List.not_mem_nil, or_false] at hx
    rcases hx with rfl | rfl
    · exact t2
    · exact i2).mono (by decide) (show 2 * 5001 ≤ 80000 by decide)
theorem dn_lp {K : PySem.W.Frag} {H : Hp} {p t : Addr} {ls : List (List Nat)} {n : Nat} (hp : H p = some (.lst [.ref t, .int (n : Int)])) (ht : H t = some (.tup (ls.map fun l => V.str (S l)))) : Rn.Dn K H (.ref p) (lpD ls n) :=
  .lst (SqL.of hp) (.cons (.tup (SqT.of ht) (dn_strs ls)) (.cons (.int _) .nil))
theorem lab_pick : ∀ L : List (Addr × Pp), (L.filter fun q => (labP q.2).isSome).map (fun q => V.str (S ((labP q.2).getD []))) = (((L.map (·.2)).filterMap labP).map fun k => (.inr (S k) : Key)).map kV := labs_eq
theorem tab_nil {qs : List Pp} (h : qs.filterMap labP = []) : TabP qs [] where
  nd := List.nodup_nil
  at_ := fun y hy => nomatch hy
  has := fun c k v hv => by
    have z : (c :: k) ∈ qs.filterMap labP := lab_mem.mpr ⟨(fun z => nomatch z), v, hv⟩
    rw [h] at z
    cases z
  few := by decide
theorem labsT_nil {qs : List Pp} (h : (labsT qs).isEmpty = true) : qs.filterMap labP = [] := by
  obtain ⟨ls, e, _, m, _⟩ := labs_of qs
  rw [e] at h
  cases ls with
  | nil =>
    exact List.eq_nil_iff_forall_not_mem.mpr fun k hk => by
      have z := (m k).mpr hk
      cases z
  | cons a r => cases h
theorem eq_pieces {CP : Addr} {K : PySem.W.Frag} {H : Hp} {Q : VK} {E : XK} {x y : Addr} {A : List Pp × Str} (hx : PieceAt CP H x A.1 A.2) (hy : PieceAt CP H y A.1 A.2) (g : ∀ p ∈ A.1, Gp p) (q : Q (.bl true) H) : Oe.rOwnEq K CP (sp_Piece_eq CP) E (.ref x) (.ref y) H Q := by
  obtain ⟨dx, cx, ox, _⟩ := id hx
  obtain ⟨dy, cy, oy, _⟩ := id hy
  refine Oe.c_ownEq ox (.ins oy) ⟨x, .ref y, A, _, rfl, hx, g, .piece hy g, _, rfl, ?_⟩
  rw [decide_eq_true rfl, decide_eq_true rfl]
  exact q
theorem lit37' {c : Nat} (h : litB c = true) : c ≠ 37 ∧ c < 128 := by
  unfold litB at h
  simp only [Bool.and_eq_true, decide_eq_true_eq] at h
  omega
theorem lab37' {k : List Nat} (h : labelB k = true) : ∀ c ∈ k, c ≠ 37 ∧ c < 128 := by
  obtain ⟨d, hd, hdd⟩ := stem_app k
  unfold labelB at h
  rw [Bool.and_eq_true] at h
  have hw := h.1
  unfold wordB at hw
  rw [Bool.and_eq_true] at hw
  intro c hc
  rw [hd] at hc
  rcases List.mem_append.mp hc with hc | hc
  · have := List.all_eq_true.mp hw.2 c hc
    unfold low at this
    simp only [Bool.and_eq_true, decide_eq_true_eq] at this
    omega
  · have := List.all_eq_true.mp hdd c hc
    unfold dig at this
    simp only [Bool.and_eq_true, decide_eq_true_eq] at this
    omega
theorem label_rng37 {k : List Nat} (h : k = [] ∨ labelB k = true) : ∀ c ∈ k, c ≠ 37 ∧ c < 128 := by
  rcases h with rfl | h
  · exact fun _ z => nomatch z
  · exact lab37' h
theorem okn_nonK : Rn.Okn 60 80000 .none := ⟨rfl, by simp only [PyData.depth]; omega, rfl, by simp only [PyData.weight]; omega⟩
def atD (ts : List Tk) (tl : List Nat) : PyData := if tl = [] then .none else .int (((flat ts).length : Nat) : Int)
theorem dn_at {K : PySem.W.Frag} {H : Hp} (ts : List Tk) (tl : List Nat) : Rn.Dn K H (atV ts tl) (atD ts tl) := by
  unfold atV atD
  split
  · exact .non
  · exact .int _
theorem okn_at {ts : List Tk} {tl : List Nat} (h : (flat ts).length ≤ 10 ^ 6) : Rn.Okn 60 80000 (atD ts tl) := by
  unfold atD
  split
  · exact okn_nonK
  · exact (okn_int (big6 (by simpa using h))).mono (by decide) (by decide)
theorem tmpl_rng : ∀ {ps : List Pp}, (∀ p ∈ ps, Gp p) → ∀ c ∈ tmpl ps, c ≠ 37 ∧ c < 128
  | [], _, _, h => nomatch h
  | p :: r, g, c, h => by
    rcases List.mem_append.mp (show c ∈ tmplP p ++ tmpl r from h) with h | h
    · have gp := g p List.mem_cons_self
      cases p with
      | inl l => exact lit37' (List.all_eq_true.mp gp c h)
      | inr x =>
        obtain ⟨k, v⟩ := x
        rcases List.mem_cons.mp h with rfl | h
        · decide
        · rcases List.mem_append.mp h with h | h
          · have := label_rng37 gp.1 c h
            exact this
          · rw [List.mem_singleton.mp h]
            decide
    · exact tmpl_rng (fun q hq => g q (.tail _ hq)) c h
theorem at_last (xs : List V) (v : V) : atI (xs ++ [v]) (-1) = some v := atI_last (by rw [List.getLast?_append]; rfl)
theorem cut_take (xs : List V) (j : Nat) : cutV xs none (some (j : Int)) = xs.take j := by
  unfold cutV
  rw [HT.sIx_none, HT.sIx_nat, List.drop_zero, Nat.sub_zero]
  by_cases h : j ≤ xs.length
  · rw [Nat.min_eq_left h]
  · rw [Nat.min_eq_right (by omega), List.take_of_length_le (Nat.le_refl _), List.take_of_length_le (by omega)]
def sp_law (K : PySem.W.Frag) : Sp := fun vs H Q _ => ∃ (a : Addr) (ns : List Int), vs = [.ref a] ∧ SqL K H a (ns.map V.int) ∧ ns.length ≤ 63 ∧ ∀ H', Q (.bl true) H'
/-- what stands in the loop over the calls -/
structure Lp (CT CP b R U W D : Addr) (xs ts : List V) (L : List (List Pp)) (H0 : Hp) (L2 L3 : List (List Pp)) (as ds : List V) (H : Hp) : Prop where
  r : H R = some (.lst xs)
  u : H U = some (.lst ts)
  rows : RowsAt [D, W, b] H xs L
  tm : TmplsAt CT H ts L
  w : H W = some (.lst as)
  pcs : PcsF [D, W, b] CP H as L2
  d : H D = some (.lst ds)
  dues : RowsAt [D, W, b] H ds L3
  bag : BagB H b
  k : KeptB b H0 H
/-- what does not change in it -/
structure Lc1 (b R U W D : Addr) (L : List (List Pp)) (H0 : Hp) : Prop where
  nR : R ∉ [D, W, b]
  nU : U ∉ [D, W, b]
  dw : D ≠ W
  wb : W ≠ b
  db : D ≠ b
  w0 : H0 W = none
  d0 : H0 D = none
  l2 : L.length = 2
  gl : ∀ ps ∈ L, GoodR ps
section
variable {CT CP b R U W D : Addr} {xs ts : List V} {L : List (List Pp)} {H0 : Hp} {L2 L3 : List (List Pp)} {as ds : List V} {H H' : Hp}
theorem Lp.ml (h : Lp CT CP b R U W D xs ts L H0 L2 L3 as ds H) : ML [D, W, b] H := ml3 h.bag h.w h.d
theorem Lp.kb (c : Lc1 b R U W D L H0) (h : Lp CT CP b R U W D xs ts L H0 L2 L3 as ds H) (k : KeptB b H H') (hb : BagB H' b) : Lp CT CP b R U W D xs ts L H0 L2 L3 as ds H' := by
  have km : KM [D, W, b] H H' := KM.kb k (.tail _ (.tail _ List.mem_cons_self))
  have m := h.ml
  exact ⟨km _ _ h.r c.nR, km _ _ h.u c.nU, h.rows.km m km, h.tm.km m km, k _ _ h.w c.wb, h.pcs.km m km, k _ _ h.d c.db, h.dues.km m km, hb, h.k.trans k⟩
theorem Lp.pushW (c : Lc1 b R U W D L H0) (h : Lp CT CP b R U W D xs ts L H0 L2 L3 as ds H) {x : Addr} {qs : List Pp} (hx : PieceF [D, W, b] CP H x (qs, "term")) : Lp CT CP b R U W D xs ts L H0 (L2 ++ [qs]) L3 (as ++ [.ref x]) ds (upd H W (.lst (as ++ [.ref x]))) := by
  have m := h.ml
  have km : KM [D, W, b] H (upd H W (.lst (as ++ [.ref x]))) := (KM.of (Same.refl _)).upd (.tail _ List.mem_cons_self)
  exact ⟨km _ _ h.r c.nR, km _ _ h.u c.nU, h.rows.km m km, h.tm.km m km, upd_same, Paired.snoc (h.pcs.km m km) ⟨x, rfl, hx.km m km⟩, Eg.upd_mut c.dw h.d, h.dues.km m km, h.bag.to (upd_ne c.wb.symm), fun u o e n => Eg.upd_mut (ne_of_none e c.w0) (h.k u o e n)⟩
theorem Lp.pushD (c : Lc1 b R U W D L H0) (h : Lp CT CP b R U W D xs ts L H0 L2 L3 as ds H) {x : Addr} {qs : List Pp} (hx : CellsF [D, W, b] H x qs) : Lp CT CP b R U W D xs ts L H0 L2 (L3 ++ [qs]) as (ds ++ [.ref x]) (upd H D (.lst (ds ++ [.ref x]))) := by
  have m := h.ml
  have km : KM [D, W, b] H (upd H D (.lst (ds ++ [.ref x]))) := (KM.of (Same.refl _)).upd List.mem_cons_self
  exact ⟨km _ _ h.r c.nR, km _ _ h.u c.nU, h.rows.km m km, h.tm.km m km, Eg.upd_mut c.dw.symm h.w, h.pcs.km m km, upd_same, Paired.snoc (h.dues.km m km) ⟨x, rfl, hx.km m km⟩, h.bag.to (upd_ne c.db.symm), fun u o e n => Eg.upd_mut (ne_of_none e c.d0) (h.k u o e n)⟩
theorem Lp.same (c : Lc1 b R U W D L H0) (h : Lp CT CP b R U W D xs ts L H0 L2 L3 as ds H) (s : Same H H') : Lp CT CP b R U W D xs ts L H0 L2 L3 as ds H' := h.kb c (.of s) (h.bag.keep s)
/-- one of the two templates -/
theorem Lp.at_ (c : Lc1 b R U W D L H0) (h : Lp CT CP b R U W D xs ts L H0 L2 L3 as ds H) (j : Nat) : ∃ (cc t : Addr) (ps : List Pp), atI xs (((j % 2 : Nat) : Nat) : Int) = some (.ref cc) ∧ atI ts (((j % 2 : Nat) : Nat) : Int) = some (.ref t) ∧ CellsF [D, W, b] H cc ps ∧ TmplAt CT H t ps ∧ GoodR ps := by
  have hj : j % 2 < L.length := by rw [c.l2]; omega
  obtain ⟨v, hv, cc, rfl, hc⟩ := Paired.getR h.rows (List.getElem?_eq_getElem hj)
  obtain ⟨v, hv', t, rfl, ht⟩ := Paired.getR h.tm (List.getElem?_eq_getElem hj)
  exact ⟨cc, t, _, atI_nat hv, atI_nat hv', hc, ht, c.gl _ (List.getElem_mem hj)⟩
end
section
variable {P : Program} {w : World} {K : PySem.W.Frag} {mg : Str → Option Value} {base : Heap} {Z : Ad}
set_option maxHeartbeats 16000000 in
theorem ok_law (T : Txt K mg Z) : Gd.FnG P w K mg base CX0 15 Z.a_law Z.d_law ["_law_script"] (sp_law K) := by
  refine Gd.Fun.okG T.F_law sc_law (fun vs H Q E h => ?_) (fun cdv A outer s H0 vs Q E hr stl h => ?_)
  · obtain ⟨a, ns, rfl, _⟩ := h
    rfl
  · obtain ⟨a, sc, rfl, hS, hlen, q⟩ := h
    have nd := sc_law.nd
    have hu := hu_of hr
    have cT := T.cl_Template
    have n1 := T.n_Template_labels
    have n2 := T.n_Template_places
    refine ⟨_, (pss_cons (ps_for PassesOwn.never rfl (pi_range1 (by rfl) T.u_range (pa_cons (pe_callB (Eg.cr_max2 rfl) (by rfl) T.u_max (by decide +kernel) (pa_cons pe_int (pa_cons (pe_callB (Eg.cr_min2 rfl) (by rfl) T.u_min (by decide +kernel) (pa_cons pe_int (pa_cons (pe_callB Eg.cr_len (by rfl) T.u_len (by decide +kernel) (pa_cons (pv 0) pa_nil)) pa_nil))) pa_nil))) pa_nil)) (pg_name (i := 1) nd rfl (Or.inl rfl))
  (pss_cons (ps_set (i := 2) nd rfl (Or.inr rfl) (pe_call (ok_l_bag T) (hr.mono (by decide)) (by rfl) T.g_l_bag T.F_l_bag.kp T.b_l_bag .nil pass0 (pa_cons (pv 0) (pa_cons (pv 1) pa_nil))))
  (C8.pss_cut (ps_setLc (i := 3) (own := [("_law_k", 15)]) rfl nd rfl rfl (sw_true rfl rfl rfl (by decide +kernel)) (pi_range1 (by rfl) T.u_range (pa_cons pe_int pa_nil)) (blkOk_by (N := N_law) (sc := defScope s_law) (by decide +kernel)) (fun _ _ _ _ _ => (pg_name (i := 15) nd rfl (Or.inl rfl))) (fun _ _ _ _ _ => pts_nil) (fun _ _ _ _ _ => (Eg.peE (pe_call (ok_l_parts T) (hr.mono (by decide)) (by rfl) T.g_l_parts T.F_l_parts.kp T.b_l_parts .nil pass0 (pa_cons (pv 2) (pa_cons (pe_call (ok_l_labels T) (hr.mono (by decide)) (by rfl) T.g_l_labels T.F_l_labels.kp T.b_l_labels .nil pass0 (pa_cons (pv 2) (pa_cons (pe_call (ok_l_take T) (hr.mono (by decide)) (by rfl) T.g_l_take T.F_l_take.kp T.b_l_take .nil pass0 (pa_cons (pv 2) (pa_cons pe_int pa_nil))) pa_nil))) (pa_cons pe_int pa_nil)))) (by walk_at "blk"))))
  (C8.pss_cut (ps_setLc (i := 5) (own := [("_law_parts_here", 4)]) rfl nd rfl rfl (sw_true rfl rfl rfl (by decide +kernel)) (pi_list (pv 3)) (blkOk_by (N := N_law) (sc := defScope s_law) (by decide +kernel)) (fun _ _ _ _ _ => (pg_name (i := 4) nd rfl (Or.inl rfl))) (fun _ _ _ _ _ => pts_nil) (fun _ _ _ _ _ => (Eg.peE (pe_make T.mk_Template (ok_Template_init T) (hr.mono (by decide)) (by rfl) T.g_Template T.b_Template_init .nil pass0 (pa_cons (pe_call (ok_l_text T) (hr.mono (by decide)) (by rfl) T.g_l_text T.F_l_text.kp T.b_l_text .nil pass0 (pa_cons (pv 4) pa_nil)) pa_nil)) (by walk_at "blk"))))
  (pss_cons (ps_par (i := 6) (j := 7) (by rfl) nd rfl rfl (by decide) rfl rfl (pa_cons (pe_lst pa_nil) (pa_cons (pe_lst pa_nil) pa_nil)) (by rfl))
  (C8.pss_cut (ps_for PassesOwn.never rfl (pi_range1 (by rfl) T.u_range (pa_cons pe_int pa_nil)) (pg_name (i := 8) nd rfl (Or.inl rfl))
  (pss_cons (ps_par (i := 9) (j := 4) (by rfl) nd rfl rfl (by decide) rfl rfl (pa_cons (pe_ix ix_list (pv 5) (pe_op op_mod (pv 8) pe_int) (fun _ _ => rfl)) (pa_cons (pe_call (ok_l_valued T) (hr.mono (by decide)) (by rfl) T.g_l_valued T.F_l_valued.kp T.b_l_valued .nil pass0 (pa_cons (pe_ix ix_list (pv 3) (pe_op op_mod (pv 8) pe_int) (fun _ _ => rfl)) (pa_cons (pv 2) pa_nil))) pa_nil)) (by rfl))
  (C8.pss_cut (ps_set (i := 10) nd rfl (Or.inr rfl) (pe_lc (own := [("_law_part", 16)]) rfl nd (pi_list (pv 4)) (blkOk_by (N := N_law) (sc := defScope s_law) (by decide +kernel)) (fun _ _ _ _ _ => (pg_name (i := 16) nd rfl (Or.inl rfl))) (fun _ _ _ _ _ => (Eg.ptsE (pts_one (PW.pt (pw_and (pt_cmpR op_eq (pe_ix ix_tup (pv 16) pe_int (fun _ _ => rfl)) pe_str (nomark _)) (pw_and1 (pt_cmpR op_ne (pe_ix ix_tup (pv 16) pe_int (fun _ _ => rfl)) pe_str (nomark _)))))) (by walk_at "blk"))) (fun _ _ _ _ _ => (Eg.peE (pe_ix ix_tup (pv 16) pe_int (fun _ _ => rfl)) (by walk_at "blk")))))
  (C8.pss_cut (ps_setLc (i := 11) (own := [("_law_k", 15), ("_law_label", 17)]) rfl nd rfl rfl (sw_true rfl rfl rfl (by decide +kernel)) (pi_enum (by rfl) T.u_enumerate (pa_cons (pv 10) pa_nil)) (blkOk_by (N := N_law) (sc := defScope s_law) (by decide +kernel)) (fun _ _ _ _ _ => (Eg.pgE (t' := gTup K 2 (gCons (gName 15) (gCons (gName 17) gNil))) (pg_tup (by rfl) (pgs_cons (pg_name (i := 15) nd rfl (Or.inl rfl)) (pgs_cons (pg_name (i := 17) nd rfl (Or.inl rfl)) pgs_nil))) rfl)) (fun _ _ _ _ _ => (Eg.ptsE (pts_one (pt_cmpR op_notIn_seq (pv 17) (pe_slice sl_list (pv 10) po_none (po_some (pv 15))) (by rfl))) (by walk_at "blk"))) (fun _ _ _ _ _ => (Eg.peE (pv 17) (by walk_at "blk"))))
  (C8.pss_cut (ps_if (pt_cmpR op_ne (pe_callB (Rn.cr_reprN stl (Gd.u70 hr)) (by rfl) T.u_repr (by decide +kernel) (pa_cons (pe_lst (pa_cons (pe_fld (pv 9) rfl) (pa_cons (pe_fld (pv 9) rfl) pa_nil))) pa_nil)) (pe_callB (Rn.cr_reprN stl (Gd.u70 hr)) (by rfl) T.u_repr (by decide +kernel) (pa_cons (pe_lst (pa_cons (pe_callTy Eg.cr_tup (by rfl) T.u_tuple (by decide +kernel) (pa_cons (pv 11) pa_nil)) (pa_cons (pe_callB Eg.cr_len (by rfl) T.u_len (by decide +kernel) (pa_cons (pe_call (ok_l_values T) (hr.mono (by decide)) (by rfl) T.g_l_values T.F_l_values.kp T.b_l_values .nil pass0 (pa_cons (pv 4) pa_nil)) pa_nil)) pa_nil))) pa_nil)) (nomark _))
  (pss_one (ps_ret pe_bl))
  pss_nil)
  (pss_cons (ps_expr (pe_bm PySem.F.plainAttrs_list PySem.F.slot_list_append PySem.F.type_list_append mt_append (pv 6) (pa_cons (StX.pe_callO (pv 9) ⟨T.m_Template_call.at_, T.m_Template_call.fn, T.fi_Template_call⟩ ((ok_Template_call T).raw T.bp_Template_call_2.choose_spec.2 T.bp_Template_call_2.choose_spec.1) (hr.mono (by decide)) pass0 (pa_cons (pe_call (ok_l_values T) (hr.mono (by decide)) (by rfl) T.g_l_values T.F_l_values.kp T.b_l_values .nil pass0 (pa_cons (pv 4) pa_nil)) (pa_cons (pe_call (ok_l_table T) (hr.mono (by decide)) (by rfl) T.g_l_table T.F_l_table.kp T.b_l_table .nil pass0 (pa_cons (pv 4) pa_nil)) pa_nil))) pa_nil)))
  (pss_cons (ps_expr (pe_bm PySem.F.plainAttrs_list PySem.F.slot_list_append PySem.F.type_list_append mt_append (pv 7) (pa_cons (pv 4) pa_nil)))
  (C8.pss_cut (ps_if (PW.pt (pw_and (pt_cmpR (Tw.op_eqE (Nat.lt_of_succ_lt hu)) (pv 11) (pe_lst pa_nil) (nomark _)) (pw_and1 (pt_not (pt_cmpR (Oe.op_ownEq (ok_Piece_eq T) (hr.mono (by decide)) T.m_Piece_eq T.b_Piece_eq pass0) (StX.pe_callO (pv 9) ⟨T.m_Template_call.at_, T.m_Template_call.fn, T.fi_Template_call⟩ ((ok_Template_call T).raw T.bp_Template_call_1.choose_spec.2 T.bp_Template_call_1.choose_spec.1) (hr.mono (by decide)) pass0 (pa_cons (pe_call (ok_l_values T) (hr.mono (by decide)) (by rfl) T.g_l_values T.F_l_values.kp T.b_l_values .nil pass0 (pa_cons (pv 4) pa_nil)) pa_nil)) (pe_ix ix_list (pv 6) (pe_un un_neg pe_int) (fun _ _ => rfl)) (nomark _))))))
  (pss_one (ps_ret pe_bl))
  pss_nil)
  (C8.pss_cut (ps_if (PW.pt (pw_and (pt_cmpR (Tw.op_eqE (Nat.lt_of_succ_lt hu)) (pe_op op_cat (pv 10) (pe_call (ok_l_values T) (hr.mono (by decide)) (by rfl) T.g_l_values T.F_l_values.kp T.b_l_values .nil pass0 (pa_cons (pv 4) pa_nil))) (pe_lst pa_nil) (nomark _)) (pw_and1 (pt_not (pt_cmpR (Oe.op_ownEq (ok_Piece_eq T) (hr.mono (by decide)) T.m_Piece_eq T.b_Piece_eq pass0) (Co.pe_callO0 (pv 9) ⟨T.m_Template_call.at_, T.m_Template_call.fn, T.fi_Template_call⟩ ((ok_Template_call0 T).raw T.bp_Template_call_0.choose_spec.2 T.bp_Template_call_0.choose_spec.1) (hr.mono (by decide)) pass0) (pe_ix ix_list (pv 6) (pe_un un_neg pe_int) (fun _ _ => rfl)) (nomark _))))))
  (pss_one (ps_ret pe_bl))
  pss_nil)
  (pss_cons (ps_set (i := 12) nd rfl (Or.inl rfl) (ClX.pe_cmeth (pe_glob (v := .ref Z.c_Piece) (by rfl) T.g_Piece rfl) T.cr_Piece T.cm_Piece_of ((ok_Piece_of T).raw T.b_Piece_of .nil) (hr.mono (by decide)) pass0 (pa_cons (pe_call (ok_l_text T) (hr.mono (by decide)) (by rfl) T.g_l_text T.F_l_text.kp T.b_l_text .nil pass0 (pa_cons (pv 4) pa_nil)) (pa_cons (pe_call (ok_l_values T) (hr.mono (by decide)) (by rfl) T.g_l_values T.F_l_values.kp T.b_l_values .nil pass0 (pa_cons (pv 4) pa_nil)) (pa_cons (pe_call (ok_l_table T) (hr.mono (by decide)) (by rfl) T.g_l_table T.F_l_table.kp T.b_l_table .nil pass0 (pa_cons (pv 4) pa_nil)) pa_nil)))))
  (C8.pss_cut (ps_if (pt_not (pt_cmpR (Oe.op_ownEq (ok_Piece_eq T) (hr.mono (by decide)) T.m_Piece_eq T.b_Piece_eq pass0) (pe_ix ix_list (pv 6) (pe_un un_neg pe_int) (fun _ _ => rfl)) (pv 12) (nomark _)))
  (pss_one (ps_ret pe_bl))
  pss_nil)
  (pss_one (ps_if (pt_not (pt_val (Gd.pe_callG (ok_l_errors T) (hr.mono (by decide)) stl (by rfl) T.g_l_errors T.F_l_errors.kp T.b_l_errors .nil pass0 (pa_cons (pv 9) (pa_cons (pv 4) (pa_cons (pv 2) pa_nil))))))
  (pss_one (ps_ret pe_bl))
  pss_nil)))))))))))))
  (C8.pss_cut (ps_for PassesOwn.never rfl (pi_zip (by rfl) T.u_zip (pa_cons (pv 6) (pa_cons (pv 7) pa_nil))) (pg_tup (by rfl) (pgs_cons (pg_name (i := 13) nd rfl (Or.inl rfl)) (pgs_cons (pg_name (i := 4) nd rfl (Or.inl rfl)) pgs_nil)))
  (pss_one (ps_if (pt_not (pt_val (Gd.pe_callG (ok_l_is T) (hr.mono (by decide)) stl (by rfl) T.g_l_is T.F_l_is.kp T.b_l_is .nil pass0 (pa_cons (pv 13) (pa_cons (pv 4) (pa_cons pe_str pa_nil))))))
  (pss_one (ps_ret pe_bl))
  pss_nil)))
  (pss_cons (ps_set (i := 14) nd rfl (Or.inl rfl) (pe_call (ok_l_spoilt T) (hr.mono (by decide)) (by rfl) T.g_l_spoilt T.F_l_spoilt.kp T.b_l_spoilt .nil pass0 (pa_cons (pv 2) (pa_cons (pe_call (ok_l_text T) (hr.mono (by decide)) (by rfl) T.g_l_text T.F_l_text.kp T.b_l_text .nil pass0 (pa_cons (pe_ix ix_list (pv 3) pe_int (fun _ _ => rfl)) pa_nil)) pa_nil))))
  (pss_one (ps_if (pt_cmpR op_ne (pe_callB (Rn.cr_reprN stl (Gd.u70 hr)) (by rfl) T.u_repr (by decide +kernel) (pa_cons (pe_call (ok_l_wrong T) (hr.mono (by decide)) (by rfl) T.g_l_wrong T.F_l_wrong.kp T.b_l_wrong .nil pass0 (pa_cons (pv 14) pa_nil)) pa_nil)) (pe_callB (Rn.cr_reprN stl (Gd.u70 hr)) (by rfl) T.u_repr (by decide +kernel) (pa_cons (pe_ix ix_tup (pe_call (ok_l_read T) (hr.mono (by decide)) (by rfl) T.g_l_read T.F_l_read.kp T.b_l_read .nil pass0 (pa_cons (pv 14) (pa_cons pe_str pa_nil))) pe_int (fun _ _ => rfl)) pa_nil)) (nomark _))
  (pss_one (ps_ret pe_bl))
  pss_nil))))))))))
  (pss_one (ps_ret pe_bl))), ?_⟩
    refine Eg.w_sig (σ := [some (.ref a), none, none, none, none, none, none, none, none, none, none, none, none, none, none, none, none, none]) rfl ?_
    walk_at "go"
    refine for_range (lo := 0) (fun i σ' H' => ∃ v1 v2 v3 v4 v5 v6 v7 v8 v9 v10 v11 v12 v13 v14 v15 v16 v17 : Option V, σ' = [some (.ref a), v1, v2, v3, v4, v5, v6, v7, v8, v9, v10, v11, v12, v13, v14, v15, v16, v17] ∧ Same H0 H') ⟨_, _, _, _, _, _, _, _, _, _, _, _, _, _, _, _, _, rfl, Same.refl _⟩ ?_ ?_
    rotate_left
    · rintro _ H3 ⟨v1, v2, v3, v4, v5, v6, v7, v8, v9, v10, v11, v12, v13, v14, v15, v16, v17, rfl, _⟩
      walk_at "go"
      exact q H3
    rintro i _ H1 hi ⟨v1, v2, v3, v4, v5, v6, v7, v8, v9, v10, v11, v12, v13, v14, v15, v16, v17, rfl, s1⟩
    have hi4 : i < 4 := by
      split at hi <;> split at hi <;> omega
    walk_at "go"
    refine ⟨a, sc, 0 + (i : Int), rfl, s1.seq hS, hlen, by omega, by omega, fun b H2 hb0 hb2 s2 => ?_⟩
    have b0 : H0 b = none := s1.free hb0
    have k2 : KeptB b H0 H2 := .of (s1.trans s2)
    clear s2 hb0 s1
    walk_at "go"
    refine ⟨fun σ' H' => ∃ (R : Addr) (xs : List V) (L : List (List Pp)), σ' = [some (.ref a), some (.int (0 + (i : Int))), some (.ref b), some (.ref R), v4, v5, v6, v7, v8, v9, v10, v11, v12, v13, v14, v15, v16, v17] ∧ H' R = some (.lst xs) ∧ RowsAt [b] H' xs L ∧ L.length = 2 ∧ (∀ ps ∈ L, GoodR ps) ∧ BagB H' b ∧ KeptB b H0 H' ∧ R ≠ b, ?_, ?_⟩
    · walk_at "go"
      intro D hD
      have hDb := hb2.ne hD
      have D0 : H0 D = none := k2.free hDb hD
      refine lc_range (lo := 0) (n := Int.toNat 2) (fun j H' => ∃ (xs : List V) (L : List (List Pp)), H' D = some (.lst xs) ∧ RowsAt [b, D] H' xs L ∧ L.length = j ∧ (∀ ps ∈ L, GoodR ps) ∧ BagB H' b ∧ KeptB b H0 H') ⟨[], [], upd_same, .nil, rfl, (fun _ z => nomatch z), hb2.to (upd_ne hDb.symm), fun c o e n => Eg.upd_old (k2 c o e n) hD⟩ ?_ ?_
      · rintro j H7 hj ⟨xs, L, h7D, r7, l7, g7, hb7, k7⟩
        walk_at "go"
        refine ⟨b, 4, rfl, hb7, by decide, by decide, fun r H8 r0 r1 hb8 f8 => ?_⟩
        obtain ⟨nl, rfl⟩ := Int.eq_ofNat_of_zero_le r0
        walk_at "go"
        refine ⟨b, nl, rfl, hb8, by omega, fun la ls H9 hla h9l lsl lsn lsok hb9 k9 => ?_⟩
        have lab := hb8.ne hla
        have ls26 : ls.length ≤ 26 := by omega
        walk_at "go"
        refine ⟨b, la, ls, 8, rfl, hb9, h9l, lab, ls26, fun l hl => ⟨(lsok l hl).1, (lsok l hl).2⟩, by decide, fun pa ps zs H10 hpa hpb cps gps dps mps pl tl hb10 k10 => ?_⟩
        have k710 : KeptB b H7 H10 := ((KeptB.fr f8).trans k9).trans k10
        have h10D := k710 _ _ h7D hDb
        have paD : pa ≠ D := (ne_of_none (((KeptB.fr f8).trans k9) _ _ h7D hDb) hpa).symm
        have xl := Paired.length r7
        have km : KM [b, D] H7 (upd H10 D (.lst (xs ++ [.ref pa]))) := (KM.kb k710 List.mem_cons_self).upd (.tail _ List.mem_cons_self)
        have m10 := ml2 hb10 h10D
        refine ⟨xs, h10D, by rw [sizeLine_eq]; omega, xs ++ [.ref pa], L ++ [ps], upd_same, Paired.snoc (r7.km (ml2 hb7 h7D) km) ⟨pa, rfl, CellsF.km m10 ((KM.of (Same.refl _)).upd (.tail _ List.mem_cons_self)) ⟨fun z => ?_, cps⟩⟩, by rw [List.length_append, l7]; rfl, fun B hB => ?_, hb10.to (upd_ne hDb.symm), fun c o e n => Eg.upd_mut (ne_of_none e D0) (k710 _ _ (k7 c o e n) n)⟩
        · rcases List.mem_cons.mp z with z | z
          · exact hpb z
          · exact paD (List.mem_singleton.mp z)
        · rcases List.mem_append.mp hB with hB | hB
          · exact g7 B hB
          · rw [List.mem_singleton.mp hB]
            exact ⟨gps, mps, pl, tl⟩
      rintro H7 ⟨xs, L, h7D, r7, l7, g7, hb7, k7⟩
      walk_at "go"
      exact ⟨D, xs, L, rfl, h7D, Paired.mapP r7 fun _ _ ⟨c, e, d⟩ => ⟨c, e, fun z => d.1 (by rw [List.mem_singleton.mp z]; exact List.mem_cons_self), d.2⟩, l7, g7, hb7, k7, hDb⟩
    rintro _ H3 ⟨R, xs, L, rfl, h3R, r3, l3, g3, hb3, k3, Rb⟩
    clear hb2 k2
    walk_at "go"
    refine ⟨fun σ' H' => ∃ (U : Addr) (ts : List V), σ' = [some (.ref a), some (.int (0 + (i : Int))), some (.ref b), some (.ref R), v4, some (.ref U), v6, v7, v8, v9, v10, v11, v12, v13, v14, v15, v16, v17] ∧ H' U = some (.lst ts) ∧ TmplsAt Z.c_Template H' ts L ∧ Same H3 H' ∧ H3 U = none, ?_, ?_⟩
    · walk_at "go"
      intro D hD
      refine lc_list (xs := xs) (fun j H' => Same H3 H' ∧ ∃ as, H' D = some (.lst as) ∧ TmplsAt Z.c_Template H' as (L.take j)) ⟨Eg.same_new (Same.refl _) hD, [], upd_same, .nil⟩ (fun j H' _ h => SqL.of (h.1 _ _ h3R)) ?_ ?_
      · rintro j y H7 hy ⟨s7, as, h7D, p7⟩
        obtain ⟨ps, hps, c, rfl, cf⟩ := Paired.getL r3 hy
        obtain ⟨hlt, he⟩ := List.getElem?_eq_some_iff.mp hps
        have gr := g3 ps (List.mem_of_getElem? hps)
        have al := Paired.length p7
        rw [List.length_take] at al
        walk_at "go"
        refine ⟨c, ps, rfl, cf.2.keep s7, gr.few, fun H8 s8 => ?_⟩
        walk_at "go"
        refine mk_tmpl gr.few gr.1 fun t H9 ht tm s9 => ?_
        have h9D := s9 _ _ (s8 _ _ h7D)
        have s79 := s8.trans s9
        refine ⟨as, h9D, by rw [sizeLine_eq]; omega, Eg.same_mut (s7.trans s79) hD, as ++ [.ref t], upd_same, ?_⟩
        rw [List.take_succ_eq_append_getElem hlt, he]
        have m9 : ML [D] H9 := fun m hm => by rw [List.mem_singleton.mp hm]; exact ⟨_, h9D⟩
        have km : KM [D] H9 (upd H9 D (.lst (as ++ [.ref t]))) := (KM.of (Same.refl _)).upd List.mem_cons_self
        refine Paired.snoc (TmplsAt.km m9 km (Paired.mapP p7 fun _ _ ⟨c, e, d⟩ => ⟨c, e, d.keep s79⟩)) ⟨t, rfl, tm.km m9 km⟩
      · rintro H7 ⟨s7, as, h7D, p7⟩
        have xl := Paired.length r3
        rw [xl, List.take_length] at p7
        walk_at "go"
        exact ⟨D, as, rfl, h7D, p7, s7, hD⟩
    rintro _ H4 ⟨U, ts, rfl, h4U, t4, s34, U3⟩
    have h4R := s34 _ _ h3R
    have r4 : RowsAt [b] H4 xs L := Paired.mapP r3 fun _ _ ⟨c, e, d⟩ => ⟨c, e, d.1, d.2.keep s34⟩
    have hb4 := hb3.keep s34
    have k4 := k3.trans (.of s34)
    have Ub := hb3.ne U3
    clear r3 hb3 k3 h3R s34 U3
    walk_at "go"
    intro W hW
    have Wb := hb4.ne hW
    have s5 : Same H4 (upd H4 W (.lst [])) := fun c o e => Eg.upd_old e hW
    have h5W : upd H4 W (.lst []) W = some (.lst []) := upd_same
    generalize upd H4 W (.lst []) = H5 at s5 h5W ⊢
    walk_at "go"
    intro D hD
    have Db := (hb4.keep s5).ne hD
    have DW : D ≠ W := (ne_of_none h5W hD).symm
    have D4 : H4 D = none := s5.free hD
    have s6 : Same H5 (upd H5 D (.lst [])) := fun c o e => Eg.upd_old e hD
    have h6D : upd H5 D (.lst []) D = some (.lst []) := upd_same
    generalize upd H5 D (.lst []) = H6 at s6 h6D ⊢
    have s46 := s5.trans s6
    have cc : Lc1 b R U W D L H0 := ⟨fun z => by
      rcases List.mem_cons.mp z with rfl | z
      · rw [h4R] at D4; cases D4
      · rcases List.mem_cons.mp z with rfl | z
        · rw [h4R] at hW; cases hW
        · exact Rb (List.mem_singleton.mp z), fun z => by
      rcases List.mem_cons.mp z with rfl | z
      · rw [h4U] at D4; cases D4
      · rcases List.mem_cons.mp z with rfl | z
        · rw [h4U] at hW; cases hW
        · exact Ub (List.mem_singleton.mp z), DW, Wb, Db, k4.free Wb hW, k4.free Db D4, l3, g3⟩
    have r6 : RowsAt [D, W, b] H6 xs L := Paired.mapP ((r4.add hW).add D4) fun _ _ ⟨c, e, d⟩ => ⟨c, e, d.1, d.2.keep s46⟩
    have lp : Lp Z.c_Template Z.c_Piece b R U W D xs ts L H0 [] [] [] [] H6 := ⟨s46 _ _ h4R, s46 _ _ h4U, r6, Paired.mapP t4 fun _ _ ⟨c, e, d⟩ => ⟨c, e, d.keep s46⟩, s6 _ _ h5W, .nil, h6D, .nil, hb4.keep s46, k4.trans (.of s46)⟩
    clear r4 t4 hb4 k4 h4R h4U hW hD s5 s6 s46 h5W h6D D4 r6 Wb Db DW Ub Rb l3 g3
    walk_at "go"
    refine ⟨fun σ' H' => ∃ (L2 : List (List Pp)) (as ds : List V) (v4 v8 v9 v10 v11 v12 v13 v14 v15 v16 v17 : Option V), σ' = [some (.ref a), some (.int (0 + (i : Int))), some (.ref b), some (.ref R), v4, some (.ref U), some (.ref W), some (.ref D), v8, v9, v10, v11, v12, v13, v14, v15, v16, v17] ∧ Lp Z.c_Template Z.c_Piece b R U W D xs ts L H0 L2 L2 as ds H' ∧ (∀ qs ∈ L2, GoodR qs), ?_, ?_⟩
    · walk_at "go"
      refine for_range (lo := 0) (n := Int.toNat 4) (fun j σ' H' => ∃ (L2 : List (List Pp)) (as ds : List V) (v4 v8 v9 v10 v11 v12 v13 v14 v15 v16 v17 : Option V), σ' = [some (.ref a), some (.int (0 + (i : Int))), some (.ref b), some (.ref R), v4, some (.ref U), some (.ref W), some (.ref D), v8, v9, v10, v11, v12, v13, v14, v15, v16, v17] ∧ L2.length = j ∧ Lp Z.c_Template Z.c_Piece b R U W D xs ts L H0 L2 L2 as ds H' ∧ (∀ qs ∈ L2, GoodR qs)) ⟨[], [], [], _, _, _, _, _, _, _, _, _, _, _, rfl, rfl, lp, (fun _ z => nomatch z)⟩ ?_ ?_
      rotate_left
      · rintro _ H' ⟨L2, as, ds, v4, v8, v9, v10, v11, v12, v13, v14, v15, v16, v17, rfl, _, lp, gl⟩
        walk_at "go"
        exact ⟨L2, as, ds, _, _, _, _, _, _, _, _, _, _, _, rfl, lp, gl⟩
      clear lp
      rintro j _ H7 hj ⟨L2, as, ds, v4, v8, v9, v10, v11, v12, v13, v14, v15, v16, v17, rfl, l2, lp, gl⟩
      have j4 : j < 4 := hj
      obtain ⟨rc, tt, ps, x1, x2, hrc, htt, gps⟩ := lp.at_ cc j
      have h7R := lp.r
      have h7U := lp.u
      have ej : (0 + (j : Int)) % 2 = (((j % 2 : Nat) : Nat) : Int) := by omega
      rw [← ej] at x1 x2
      walk_at "go"
      refine ⟨rc, b, ps, rfl, hrc.2, lp.bag, gps.1, gps.2.1, by have := gps.2.2.1; omega, fun c qs H8 hc0 hcb hcq gq one mq sh hb8 k78 => ?_⟩
      have lp8 := lp.kb cc k78 hb8
      have tt8 := (htt.km lp.ml (KM.kb k78 (.tail _ (.tail _ List.mem_cons_self)))).shp sh
      have gqs := gps.shp sh gq
      have c8 : CellsF [D, W, b] H8 c qs := ⟨lp.ml.new hc0, hcq⟩
      clear lp htt hrc h7R h7U x1 x2 ej hc0 hcb gps k78 hb8
      have ql := gqs.2.2.1
      have few := gqs.few
      walk_at "go"
      refine ⟨fun σ' H' => ∃ lh : Addr, σ' = [some (.ref a), some (.int (0 + (i : Int))), some (.ref b), some (.ref R), some (.ref c), some (.ref U), some (.ref W), some (.ref D), some (.int (0 + (j : Int))), some (.ref tt), some (.ref lh), v11, v12, v13, v14, v15, v16, v17] ∧ H' lh = some (.lst (((qs.filterMap labP).map fun k => (.inr (S k) : Key)).map kV)) ∧ Same H8 H' ∧ lh ∉ [D, W, b], ?_, ?_⟩
      · walk_at "gw"
        obtain ⟨ya, hya, pya⟩ := c8.2
        obtain ⟨Lq, h1, h2, h3⟩ := pps_pairs pya
        rw [h1] at hya
        have ll : Lq.length = qs.length := by rw [← h2, List.length_map]
        refine fm_list (xs := Lq) (G := fun q => .ref q.1) (F := fun q => .str (S ((labP q.2).getD []))) (P := fun q => (labP q.2).isSome) hya (by omega) (fun R h => ?_) (fun H' z R s' hz h => ?_) (fun H' z R s' hz hp h => ?_) (fun Y H5 hY s5 h5 => ?_)
        · walk_at "go"
          exact h
        · obtain ⟨t', p⟩ := z
          have ht := s' _ _ (h3 _ hz)
          cases p with
          | inl l =>
            have ht : H' t' = some (.tup [.str "say", .str (S l)]) := ht
            walk_at "go"
            rw [d_sh']
            walk_at "go"
            exact h _ (Same.refl _)
          | inr y =>
            obtain ⟨k, v⟩ := y
            have ht : H' t' = some (.tup [.str "hole", .str (S k), v]) := ht
            walk_at "go"
            rw [decide_eq_true (rfl : V.str "hole" = V.str "hole")]
            walk_at "go"
            rw [str_emp]
            cases k with
            | nil =>
              rw [decide_eq_true (rfl : ([] : List Nat) = [])]
              exact h _ (Same.refl _)
            | cons e k =>
              rw [decide_eq_false (show ¬ (e :: k) = [] from fun z => nomatch z)]
              exact h _ (Same.refl _)
        · obtain ⟨t', p⟩ := z
          have ht := s' _ _ (h3 _ hz)
          cases p with
          | inl l => cases hp
          | inr y =>
            obtain ⟨k, v⟩ := y
            cases k with
            | nil => cases hp
            | cons e k =>
              have ht : H' t' = some (.tup [.str "hole", .str (S (e :: k)), v]) := ht
              walk_at "go"
              exact h _ (Same.refl _)
        · rw [lab_pick, h2] at h5
          walk_at "go"
          exact ⟨Y, rfl, h5, s5, lp8.ml.new hY⟩
      rintro _ H9 ⟨lh, rfl, h9lh, s9, nlh⟩
      walk_at "go"
      refine ⟨fun σ' H' => ∃ fi : Addr, σ' = [some (.ref a), some (.int (0 + (i : Int))), some (.ref b), some (.ref R), some (.ref c), some (.ref U), some (.ref W), some (.ref D), some (.int (0 + (j : Int))), some (.ref tt), some (.ref lh), some (.ref fi), v12, v13, v14, v15, v16, v17] ∧ H' fi = some (.lst ((labsT qs).map kV)) ∧ Same H9 H' ∧ fi ∉ [D, W, b], ?_, ?_⟩
      · have lu : (labsT qs).map kV = (uniq ((qs.filterMap labP).map fun k => (.inr (S k) : Key))).map kV := rfl
        rw [lu]
        have kl : ((qs.filterMap labP).map fun k => (.inr (S k) : Key)).length ≤ qs.length := by
          rw [List.length_map]
          exact List.length_filterMap_le _ _
        generalize ((qs.filterMap labP).map fun k => (.inr (S k) : Key)) = labk at h9lh kl ⊢
        clear lu
        walk_at "go"
        try refine w_iE ?_
        walk_at "go"
        refine c_iE (SqL.of h9lh) ?_
        intro Y hY
        refine lc_it (walk_enum (xs := labk.map kV)) (fun m H' => H' Y = some (.lst ((uniq (labk.take m)).map kV)) ∧ Same H9 H') ⟨upd_same, Eg.same_new (Same.refl _) hY⟩ (fun m H' _ h => SqL.of (h.2 _ _ h9lh)) ?_ ?_
        · rintro m x H5 _ hm ⟨h5Y, s5⟩ ⟨t', y, z, rfl, htt, rfl, hy, hz⟩
          cases hy
          have hz : (labk.map kV)[m]? = some z := hz
          rw [List.getElem?_map] at hz
          obtain ⟨k, hk, rfl⟩ := Option.map_eq_some_iff.mp hz
          obtain ⟨hlt, he⟩ := List.getElem?_eq_some_iff.mp hk
          have tkj : uniq (labk.take (m + 1)) = add1 (uniq (labk.take m)) k := by rw [List.take_succ_eq_append_getElem hlt, he, uniq_snoc]
          have ul := uniq_len (labk.take m)
          rw [List.length_take] at ul
          have h6t : upd H5 t' (.tup [.int (m : Nat), kV k]) t' = some (.tup [.int (m : Nat), kV k]) := upd_same
          have s6 : Same H5 (upd H5 t' (.tup [.int (m : Nat), kV k])) := fun c o e => Eg.upd_old e htt
          generalize upd H5 t' (.tup [.int (m : Nat), kV k]) = H6 at h6t s6 ⊢
          have h6Y := s6 _ _ h5Y
          have h6p := s6 _ _ (s5 _ _ h9lh)
          walk_at "go"
          refine ⟨lh, _, rfl, SqL.of h6p, fun w hw => ?_⟩
          rw [cut_take]
          have h7w : upd H6 w (.lst ((labk.map kV).take m)) w = some (.lst ((labk.take m).map kV)) := by
            rw [upd_same, ← List.map_take]
          have s7 : Same H6 (upd H6 w (.lst ((labk.map kV).take m))) := fun c' o e => Eg.upd_old e hw
          generalize upd H6 w (.lst ((labk.map kV).take m)) = H7' at h7w s7 ⊢
          refine Tw.c_notIn (k := k) h7w ?_
          have h7Y := s7 _ _ h6Y
          have s07 := (s5.trans s6).trans s7
          rw [show decide (k ∈ labk.take m) = decide (k ∈ uniq (labk.take m)) from decide_eq_decide.mpr uniq_mem.symm]
          by_cases hm : k ∈ uniq (labk.take m)
          · rw [decide_eq_true hm]
            walk_at "go"
            refine ⟨?_, s07⟩
            rw [tkj]
            unfold add1
            rw [if_pos hm]
            exact h7Y
          · rw [decide_eq_false hm]
            walk_at "go"
            refine ⟨?_, Eg.same_mut s07 hY⟩
            rw [upd_same, tkj]
            unfold add1
            rw [if_neg hm, List.map_append]
            rfl
        · rintro H5 ⟨h5Y, s5⟩
          rw [List.length_map, List.take_length] at h5Y
          walk_at "go"
          exact ⟨Y, rfl, h5Y, s5, (lp8.same cc s9).ml.new hY⟩
      rintro _ H10 ⟨fi, rfl, h10f, s10, nfi⟩
      have lp10 := lp8.same cc (s9.trans s10)
      have tt10 := tt8.keep (s9.trans s10)
      have c10 : CellsF [D, W, b] H10 c qs := ⟨c8.1, c8.2.keep (s9.trans s10)⟩
      have h10lh := s10 _ _ h9lh
      clear lp8 tt8 c8 s9 s10 h9lh hcq
      walk_at "go"
      refine ⟨fun σ' H' => σ' = [some (.ref a), some (.int (0 + (i : Int))), some (.ref b), some (.ref R), some (.ref c), some (.ref U), some (.ref W), some (.ref D), some (.int (0 + (j : Int))), some (.ref tt), some (.ref lh), some (.ref fi), v12, v13, v14, v15, v16, v17] ∧ Same H10 H', ?_, ?_⟩
      · obtain ⟨dxt, lt, htt', hlt⟩ := id tt10
        obtain ⟨ls, lse, _, lsm, _⟩ := labs_of qs
        have e1 : (labsT qs).map kV = ls.map fun l => V.str (S l) := by
          rw [lse, List.map_map]
          rfl
        rw [e1] at hlt h10f
        have okl : Rn.Okn 60 80000 (lpD ls (qs.filterMap valP).length) := okn_lp (by
          have h1 := labsT_len qs
          rw [lse, List.length_map] at h1
          omega) (fun l hl => by
          obtain ⟨n, v, hv⟩ := lab_mem.mp ((lsm l).mp hl)
          have g := gqs.1 _ hv
          exact ⟨g.2.1, fun c hc => by have := (label_rng g.1 c hc).2; omega⟩) (by
          have : (qs.filterMap valP).length ≤ qs.length := List.length_filterMap_le _ _
          omega)
        have a2 := lk_tl (tmpl qs) lt (qs.filterMap valP).length
        have a3 := lk_tp (tmpl qs) lt (qs.filterMap valP).length
        walk_at "go"
        intro p hp
        have s11 : Same H10 (upd H10 p (.lst [.ref lt, .int ((qs.filterMap valP).length : Nat)])) := fun c o e => Eg.upd_old e hp
        have h11p : upd H10 p (.lst [.ref lt, .int ((qs.filterMap valP).length : Nat)]) p = some (.lst [.ref lt, .int ((qs.filterMap valP).length : Nat)]) := upd_same
        generalize upd H10 p (.lst [.ref lt, .int ((qs.filterMap valP).length : Nat)]) = H11 at s11 h11p ⊢
        walk_at "go"
        refine Rn.c_reprN (dn_lp h11p (s11 _ _ hlt)) okl (Nat.le_refl _) ?_
        have h11f := s11 _ _ h10f
        walk_at "go"
        refine Eg.c_tupL (SqL.of h11f) fun l hl => ?_
        have s12 : Same H11 (upd H11 l (.tup (ls.map fun l => V.str (S l)))) := fun c o e => Eg.upd_old e hl
        have h12l : upd H11 l (.tup (ls.map fun l => V.str (S l))) l = some (.tup (ls.map fun l => V.str (S l))) := upd_same
        generalize upd H11 l (.tup (ls.map fun l => V.str (S l))) = H12 at s12 h12l ⊢
        walk_at "go"
        refine ⟨c, qs, rfl, c10.2.keep (s11.trans s12), few.1, fun va H13 hva h13v s13 => ?_⟩
        have vl : (qs.filterMap valP).length ≤ qs.length := List.length_filterMap_le _ _
        walk_at "go"
        intro p2 hp2
        have s14 : Same H13 (upd H13 p2 (.lst [.ref l, .int ((qs.filterMap valP).length : Nat)])) := fun c o e => Eg.upd_old e hp2
        have h14p : upd H13 p2 (.lst [.ref l, .int ((qs.filterMap valP).length : Nat)]) p2 = some (.lst [.ref l, .int ((qs.filterMap valP).length : Nat)]) := upd_same
        generalize upd H13 p2 (.lst [.ref l, .int ((qs.filterMap valP).length : Nat)]) = H14 at s14 h14p ⊢
        walk_at "go"
        refine Rn.c_reprN (dn_lp h14p ((s13.trans s14) _ _ h12l)) okl (Nat.le_refl _) ?_
        walk_at "go"
        rw [if_neg (by simp)]
        walk_at "go"
        exact ⟨rfl, ((s11.trans s12).trans s13).trans s14⟩
      rintro _ H11 ⟨rfl, s11⟩
      have lp11 := lp10.same cc s11
      have tt11 := tt10.keep s11
      have c11 : CellsF [D, W, b] H11 c qs := ⟨c10.1, c10.2.keep s11⟩
      have h11lh := s11 _ _ h10lh
      have h11f := s11 _ _ h10f
      have vl : (qs.filterMap valP).length ≤ qs.length := List.length_filterMap_le _ _
      clear lp10 tt10 c10 s11 h10lh h10f
      obtain ⟨dxt, lt, htt', hlt⟩ := id tt11
      have pok : ∀ p ∈ qs, PpOk p := fun p hp => (gqs.1 p hp).ok
      have tbk : TabP qs (knownK qs) := tab_known gqs.1 one (by omega)
      have h11W := lp11.w
      walk_at "go"
      refine ⟨c, qs, rfl, c11.2, few.1, fun va H12 hva h12v s12 => ?_⟩
      walk_at "go"
      refine ⟨c, qs, rfl, c11.2.keep s12, few.1, fun da H13 hda h13d s13 => ?_⟩
      have h13t := s13 _ _ (s12 _ _ htt')
      walk_at "go"
      refine ⟨tt, dxt, lt, _, va, .ref da, qs, knownK qs, rfl, h13t, .inl (s13 _ _ h12v), few, pok, tbk, .inl ⟨da, rfl, h13d⟩, fun x H14 hx px s14 => ?_⟩
      rw [mq] at px
      have s11 := (s12.trans s13).trans s14
      have lp14 := lp11.same cc s11
      have px14 : PieceF [D, W, b] Z.c_Piece H14 x (qs, "term") := PieceN.f (A := (qs, "term")) (lp11.same cc (s12.trans s13)).ml px
      have lp15 := lp14.pushW cc px14
      have k15 : KM [D, W, b] H14 (upd H14 W (.lst (as ++ [.ref x]))) := (KM.of (Same.refl _)).upd (.tail _ List.mem_cons_self)
      have c15 := CellsF.km lp14.ml k15 (⟨c11.1, c11.2.keep s11⟩ : CellsF [D, W, b] H14 c qs)
      have lp16 := lp15.pushD cc c15
      have k16 := k15.upd (D := D) (o := .lst (ds ++ [.ref c])) List.mem_cons_self
      have c16 := CellsF.km lp14.ml k16 (⟨c11.1, c11.2.keep s11⟩ : CellsF [D, W, b] H14 c qs)
      have px16 := PieceF.km lp14.ml k16 px14
      have tt16 := TmplAt.km lp14.ml k16 (tt11.keep s11)
      have h16lh := k16 _ _ (s11 _ _ h11lh) nlh
      have h16f := k16 _ _ (s11 _ _ h11f) nfi
      have h14W := lp14.w
      have h15D := lp15.d
      have asl : as.length = L2.length := Paired.length lp14.pcs
      have dsl : ds.length = L2.length := Paired.length lp15.dues
      walk_at "go"
      generalize upd (upd H14 W (.lst (as ++ [.ref x]))) D (.lst (ds ++ [.ref c])) = H16 at lp16 c16 px16 tt16 h16lh h16f ⊢
      clear lp15 lp14 lp11 h14W h15D c15 k15 k16 px14 px hx s14 s12 s13 s11 h12v h13d h13t tt11 c11 htt' hlt h11lh h11f h11W hva hda
      have xm1 : atI (as ++ [.ref x]) (-1) = some (V.ref x) := at_last _ _
      refine ⟨fun σ' H' => σ' = [some (.ref a), some (.int (0 + (i : Int))), some (.ref b), some (.ref R), some (.ref c), some (.ref U), some (.ref W), some (.ref D), some (.int (0 + (j : Int))), some (.ref tt), some (.ref lh), some (.ref fi), v12, v13, v14, v15, v16, v17] ∧ Same H16 H', ?_, ?_⟩
      · obtain ⟨dxt, lt, h16t, _⟩ := id tt16
        have h16W := lp16.w
        walk_at "go"
        intro p hp
        have s17 : Same H16 (upd H16 p (.lst [])) := fun c o e => Eg.upd_old e hp
        have h17p : upd H16 p (.lst []) p = some (.lst []) := upd_same
        generalize upd H16 p (.lst []) = H17 at s17 h17p ⊢
        have h17t := s17 _ _ h16t
        have h17W := s17 _ _ h16W
        refine Tw.c_eqE (s17 _ _ h16f) h17p ?_
        cases le : ((labsT qs).map kV).isEmpty with
        | false =>
          walk_at "go"
          exact ⟨rfl, s17⟩
        | true =>
          have lnil : qs.filterMap labP = [] := labsT_nil (by
            cases e : labsT qs with
            | nil => rfl
            | cons x r => rw [e] at le; cases le)
          walk_at "go"
          refine ⟨c, qs, rfl, c16.2.keep s17, few.1, fun va H18 hva h18v s18 => ?_⟩
          have h18t := s18 _ _ h17t
          walk_at "go"
          refine ⟨tt, dxt, lt, _, va, .non, qs, [], rfl, h18t, .inl h18v, few, pok, tab_nil lnil, .inr ⟨rfl, rfl⟩, fun y H19 hy py s19 => ?_⟩
          rw [mq] at py
          have s169 := (s17.trans s18).trans s19
          have h19W := s169 _ _ h16W
          walk_at "go"
          refine eq_pieces (A := (qs, "term")) py.at_ (PieceF.at_ (PieceF.km lp16.ml (.of s169) px16)) gqs.1 ?_
          walk_at "go"
          exact ⟨rfl, s169⟩
      rintro _ H17 ⟨rfl, s17⟩
      have lp17 := lp16.same cc s17
      have tt17 := tt16.keep s17
      have c17 : CellsF [D, W, b] H17 c qs := ⟨c16.1, c16.2.keep s17⟩
      have px17 : PieceF [D, W, b] Z.c_Piece H17 x (qs, "term") := PieceF.km lp16.ml (.of s17) px16
      have h17lh := s17 _ _ h16lh
      clear lp16 tt16 c16 px16 h16lh h16f s17
      walk_at "go"
      refine ⟨fun σ' H' => σ' = [some (.ref a), some (.int (0 + (i : Int))), some (.ref b), some (.ref R), some (.ref c), some (.ref U), some (.ref W), some (.ref D), some (.int (0 + (j : Int))), some (.ref tt), some (.ref lh), some (.ref fi), v12, v13, v14, v15, v16, v17] ∧ Same H17 H', ?_, ?_⟩
      · obtain ⟨dxt, lt, h17t, _⟩ := id tt17
        have h17W := lp17.w
        walk_at "go"
        refine ⟨c, qs, rfl, c17.2, few.1, fun va H18 hva h18v s18 => ?_⟩
        have h18l := s18 _ _ h17lh
        walk_at "go"
        refine Eg.c_cat h18l h18v (by
          rw [List.length_map, List.length_map]
          have : (qs.filterMap labP).length ≤ qs.length := List.length_filterMap_le _ _
          omega) fun w hw => ?_
        have s19 : Same H18 (upd H18 w (.lst (((qs.filterMap labP).map fun k => (.inr (S k) : Key)).map kV ++ qs.filterMap valP))) := fun c o e => Eg.upd_old e hw
        have h19w : upd H18 w (.lst (((qs.filterMap labP).map fun k => (.inr (S k) : Key)).map kV ++ qs.filterMap valP)) w = some (.lst (((qs.filterMap labP).map fun k => (.inr (S k) : Key)).map kV ++ qs.filterMap valP)) := upd_same
        generalize upd H18 w (.lst (((qs.filterMap labP).map fun k => (.inr (S k) : Key)).map kV ++ qs.filterMap valP)) = H19 at s19 h19w ⊢
        walk_at "go"
        intro p hp
        have s20 : Same H19 (upd H19 p (.lst [])) := fun c o e => Eg.upd_old e hp
        have h20p : upd H19 p (.lst []) p = some (.lst []) := upd_same
        generalize upd H19 p (.lst []) = H20 at s20 h20p ⊢
        have s170 := (s18.trans s19).trans s20
        have h20t := s170 _ _ h17t
        have h20W := s170 _ _ h17W
        refine Tw.c_eqE (s20 _ _ h19w) h20p ?_
        cases le : (((qs.filterMap labP).map fun k => (.inr (S k) : Key)).map kV ++ qs.filterMap valP).isEmpty with
        | false =>
          walk_at "go"
          exact ⟨rfl, s170⟩
        | true =>
          rw [List.isEmpty_iff, List.append_eq_nil_iff, List.map_eq_nil_iff, List.map_eq_nil_iff] at le
          obtain ⟨lnil, vnil⟩ := le
          walk_at "go"
          refine ⟨tt, dxt, lt, _, Z.t_Template_call_0, qs, rfl, h20t, by rw [vnil]; exact T.tt_Template_call_0, few, pok, tab_nil lnil, fun y H21 hy py s21 => ?_⟩
          rw [mq] at py
          have s171 := s170.trans s21
          have h21W := s171 _ _ h17W
          walk_at "go"
          refine eq_pieces (A := (qs, "term")) py.at_ (PieceF.at_ (PieceF.km lp17.ml (.of s171) px17)) gqs.1 ?_
          walk_at "go"
          exact ⟨rfl, s171⟩
      rintro _ H18 ⟨rfl, s18⟩
      have lp18 := lp17.same cc s18
      have tt18 := tt17.keep s18
      have c18 : CellsF [D, W, b] H18 c qs := ⟨c17.1, c17.2.keep s18⟩
      have px18 : PieceF [D, W, b] Z.c_Piece H18 x (qs, "term") := PieceF.km lp17.ml (.of s18) px17
      clear lp17 tt17 c17 px17 h17lh s18
      obtain ⟨dxt, lt, h18t, _⟩ := id tt18
      have h18W := lp18.w
      walk_at "go"
      refine ⟨rfl, ?_⟩
      walk_at "go"
      refine ⟨c, qs, rfl, c18.2, few, fun H19 s19 => ?_⟩
      walk_at "go"
      refine ⟨c, qs, rfl, c18.2.keep s19, few.1, fun va H20 hva h20v s20 => ?_⟩
      walk_at "go"
      refine ⟨c, qs, rfl, c18.2.keep (s19.trans s20), few.1, fun da H21 hda h21d s21 => ?_⟩
      walk_at "go"
      refine ⟨va, da, qs, knownK qs, rfl, .inl (s21 _ _ h20v), h21d, few, pok, tbk, fun sa H22 hsa psa s22 => ?_⟩
      rw [mq] at psa
      have s18' := ((s19.trans s20).trans s21).trans s22
      have lp22 := lp18.same cc s18'
      have tt22 := tt18.keep s18'
      have c22 := c18.2.keep s18'
      have px22 : PieceAt Z.c_Piece H22 x qs "term" := (PieceF.at_ (A := (qs, "term")) px18).keep s18'
      have h22W := lp22.w
      clear lp18 tt18 c18 px18 h18W h18t s18' s19 s20 s21 s22 hva hda h20v h21d hsa
      walk_at "go"
      refine ⟨fun σ' H' => σ' = [some (.ref a), some (.int (0 + (i : Int))), some (.ref b), some (.ref R), some (.ref c), some (.ref U), some (.ref W), some (.ref D), some (.int (0 + (j : Int))), some (.ref tt), some (.ref lh), some (.ref fi), some (.ref sa), v13, v14, v15, v16, v17] ∧ Same H22 H', ?_, ?_⟩
      · walk_at "go"
        refine eq_pieces (A := (qs, "term")) px22 psa.at_ gqs.1 ?_
        walk_at "go"
        exact ⟨rfl, Same.refl _⟩
      rintro _ H24 ⟨rfl, s24⟩
      have lp24 := lp22.same cc s24
      have tt24 := tt22.keep s24
      have c24 := c22.keep s24
      clear lp22 tt22 c22 px22 psa h22W s24
      walk_at "go"
      refine ⟨tt, c, b, qs, rfl, tt24, c24, lp24.bag, gqs.1, one, ql, by have := gqs.2.2.2; omega, fun H23 hb23 k23 => ?_⟩
      have lp23 := lp24.kb cc k23 hb23
      walk_at "go"
      refine ⟨L2 ++ [qs], _, _, _, _, _, _, _, _, _, _, _, _, _, rfl, by rw [List.length_append, l2]; rfl, lp23, fun A hA => ?_⟩
      rcases List.mem_append.mp hA with hA | hA
      · exact gl A hA
      · rw [List.mem_singleton.mp hA]
        exact gqs
    rintro _ H7 ⟨L2, as, ds, v4, v8, v9, v10, v11, v12, v13, v14, v15, v16, v17, rfl, lp, gl⟩
    have h7W := lp.w
    have h7D := lp.d
    have asl : as.length = L2.length := Paired.length lp.pcs
    have dsl : ds.length = L2.length := Paired.length lp.dues
    walk_at "go"
    refine ⟨fun σ' H' => ∃ v4 v13 : Option V, σ' = [some (.ref a), some (.int (0 + (i : Int))), some (.ref b), some (.ref R), v4, some (.ref U), some (.ref W), some (.ref D), v8, v9, v10, v11, v12, v13, v14, v15, v16, v17] ∧ Same H7 H', ?_, ?_⟩
    · walk_at "go"
      refine RZ.for_zipL (xs := as) (ys := ds) (by rw [asl, dsl]) (fun j σ' H' => ∃ v4 v13 : Option V, σ' = [some (.ref a), some (.int (0 + (i : Int))), some (.ref b), some (.ref R), v4, some (.ref U), some (.ref W), some (.ref D), v8, v9, v10, v11, v12, v13, v14, v15, v16, v17] ∧ Same H7 H') ⟨_, _, rfl, Same.refl _⟩ ?_ ?_ ?_
      · rintro j _ H' ⟨v4, v13, rfl, s'⟩
        exact ⟨SqL.of (s' _ _ h7W), SqL.of (s' _ _ h7D)⟩
      · rintro j x y t _ H' hx hy ⟨v4, v13, rfl, s'⟩ ht
        obtain ⟨A, hA, xA, rfl, pA⟩ := Paired.getL lp.pcs hx
        obtain ⟨A', hA', cA, rfl, dA⟩ := Paired.getL lp.dues hy
        rw [hA] at hA'
        cases hA'
        have gA := gl A (List.mem_of_getElem? hA)
        have h't : upd H' t (.tup [.ref xA, .ref cA]) t = some (.tup [.ref xA, .ref cA]) := upd_same
        have s2 : Same H' (upd H' t (.tup [.ref xA, .ref cA])) := fun c' o' e' => Eg.upd_old e' ht
        generalize upd H' t (.tup [.ref xA, .ref cA]) = H2 at h't s2 ⊢
        walk_at "go"
        refine ⟨xA, cA, A, "term", rfl, (PieceF.at_ pA).keep (s'.trans s2), dA.2.keep (s'.trans s2), gA.1, nm_noE (by have n := mergeP_nm A; rw [gA.2.1] at n; exact n), by have := gA.2.2.2; omega, fun H3 s3 => ?_⟩
        walk_at "go"
        exact ⟨_, _, rfl, (s'.trans s2).trans s3⟩
      · rintro _ H' ⟨v4, v13, rfl, s'⟩
        walk_at "go"
        exact ⟨_, _, rfl, s'⟩
    rintro _ H8 ⟨v4, v13, rfl, s8⟩
    have lp8 := lp.same cc s8
    obtain ⟨c0, t0, ps0, x0, _, hc0, _, gps0⟩ := lp8.at_ cc 0
    have x0 : atI xs 0 = some (.ref c0) := x0
    have h8R := lp8.r
    have hb8 := lp8.bag
    have k8 := lp8.k
    clear lp lp8 s8 h7W h7D asl dsl gl cc
    walk_at "go"
    refine ⟨c0, ps0, rfl, hc0.2, gps0.few, fun H9 s9 => ?_⟩
    walk_at "go"
    have g0 := gps0.2.2.2
    refine ⟨b, tmpl ps0, rfl, hb8.keep s9, by omega, tmpl_rng gps0.1, fun v d H10 od hb10 k10 => ?_, fun m H10 ml mc hb10 k10 => ?_⟩
    · have no := (od [] (fun _ z => nomatch z)).noS
      have k010 := (k8.trans (.of s9)).trans k10
      walk_at "go"
      refine ⟨v, rfl, .inl ⟨no, fun H11 s11 => ?_⟩⟩
      walk_at "go"
      refine Rn.c_reprN (.int _) ((okn_int (by decide)).mono (by decide) (by decide) : Rn.Okn 60 80000 (.int (-1))) (Nat.le_refl _) ?_
      walk_at "go"
      refine ⟨v, "template", rfl, .inl ⟨no.keep s11, fun p e H12 hp he h12p h12e s12 => ?_⟩⟩
      have z0 : atI [V.int (-1), .ref e] 0 = some (.int (-1)) := rfl
      walk_at "go"
      refine Rn.c_reprN (.int _) ((okn_int (by decide)).mono (by decide) (by decide) : Rn.Okn 60 80000 (.int (-1))) (Nat.le_refl _) ?_
      walk_at "go"
      rw [if_neg (by simp)]
      walk_at "go"
      exact ⟨_, _, _, _, _, _, _, _, _, _, _, _, _, _, _, _, _, rfl, fun c o e => k010.trans (.of (s11.trans s12)) c o e fun z => by rw [z, b0] at e; cases e⟩
    · obtain ⟨ts, tl, em, rok, bad⟩ := scan_ex "template" m.length m (Nat.le_refl _)
      subst em
      have k010 := (k8.trans (.of s9)).trans k10
      have n37 : 37 ∉ tl := fun z => (mc 37 (List.mem_append.mpr (.inr z))).1 rfl
      walk_at "go"
      refine ⟨_, rfl, .inr ⟨ts, tl, rfl, by omega, rok, bad, fun H11 s11 => ?_⟩⟩
      walk_at "go"
      have fl : (flat ts).length ≤ 10 ^ 6 := by rw [List.length_append] at ml; omega
      refine Rn.c_reprN (dn_at ts tl) (okn_at fl) (Nat.le_refl _) ?_
      walk_at "go"
      refine ⟨_, "template", rfl, .inr ⟨ts, tl, rfl, by omega, n37, rok, bad, fun p e H12 hp he h12p h12e s12 => ?_⟩⟩
      have z0 : atI [atV ts tl, .ref e] 0 = some (atV ts tl) := rfl
      generalize [atV ts tl, V.ref e] = tup12 at h12p z0
      walk_at "go"
      refine Rn.c_reprN (dn_at ts tl) (okn_at fl) (Nat.le_refl _) ?_
      walk_at "go"
      rw [if_neg (by simp)]
      walk_at "go"
      exact ⟨_, _, _, _, _, _, _, _, _, _, _, _, _, _, _, _, _, rfl, fun c o e => k010.trans (.of (s11.trans s12)) c o e fun z => by rw [z, b0] at e; cases e⟩
end
end LW
end

namespace LW
open PySem L2
set_option maxHeartbeats 8000000 in
theorem all_mk {l : PySem.W.OpenLaw} {w : World} {K : PySem.W.Frag} {h : Heap} {mg : Str → Option Value} {fa f0 f1 f2 f3 f4 f5 f6 f7 f8 f9 f10 f11 f12 f13 f14 f15 f16 f17 f18 f19 f20 f21 f22 f23 f24 f25 f26 f27 f28 f29 f30 f31 f32 f33 f34 f35 f36 f37 f38 f39 f40 f41 f42 f43 f44 f45 f46 f47 C0 C1 C2 X0 X1 X2 X3 X4 X5 pr13 pr14 dT12 dT20 DT20_0 : Addr} (X : K.In h) (G : h.Ns mainGlobals mg) (hfa : mg "law" = some (.ref fa))
    {od0 an0 : Option Addr} {sl0 : Array (Option Value)} {oc0 kV0 dc0 pm0 cd0 ct0 : Value}
    {od1 an1 : Option Addr} {sl1 : Array (Option Value)} {oc1 kV1 dc1 pm1 cd1 ct1 : Value}
    {od2 an2 : Option Addr} {sl2 : Array (Option Value)} {oc2 kV2 dc2 pm2 cd2 ct2 : Value}
    {od3 an3 : Option Addr} {sl3 : Array (Option Value)} {oc3 kV3 dc3 pm3 cd3 ct3 : Value}
    {od4 an4 : Option Addr} {sl4 : Array (Option Value)} {oc4 kV4 dc4 pm4 cd4 ct4 : Value}
    {od5 an5 : Option Addr} {sl5 : Array (Option Value)} {oc5 kV5 dc5 pm5 cd5 ct5 : Value}
    {od6 an6 : Option Addr} {sl6 : Array (Option Value)} {oc6 kV6 dc6 pm6 cd6 ct6 : Value}
    {od7 an7 : Option Addr} {sl7 : Array (Option Value)} {oc7 kV7 dc7 pm7 cd7 ct7 : Value}
    {od8 an8 : Option Addr} {sl8 : Array (Option Value)} {oc8 kV8 dc8 pm8 cd8 ct8 : Value}
    {od9 an9 : Option Addr} {sl9 : Array (Option Value)} {oc9 kV9 dc9 pm9 cd9 ct9 : Value}
    {od10 an10 : Option Addr} {sl10 : Array (Option Value)} {oc10 kV10 dc10 pm10 cd10 ct10 : Value}
    {od11 an11 : Option Addr} {sl11 : Array (Option Value)} {oc11 kV11 dc11 pm11 cd11 ct11 : Value}
    {od12 an12 : Option Addr} {sl12 : Array (Option Value)} {oc12 kV12 dc12 pm12 cd12 ct12 : Value}
    {od13 an13 : Option Addr} {sl13 : Array (Option Value)} {oc13 kV13 dc13 pm13 cd13 ct13 : Value}
    {od14 an14 : Option Addr} {sl14 : Array (Option Value)} {oc14 kV14 dc14 pm14 cd14 ct14 : Value}
    {od15 an15 : Option Addr} {sl15 : Array (Option Value)} {oc15 kV15 dc15 pm15 cd15 ct15 : Value}
    {od16 an16 : Option Addr} {sl16 : Array (Option Value)} {oc16 kV16 dc16 pm16 cd16 ct16 : Value}
    {od17 an17 : Option Addr} {sl17 : Array (Option Value)} {oc17 kV17 dc17 pm17 cd17 ct17 : Value}
    {od18 an18 : Option Addr} {sl18 : Array (Option Value)} {oc18 kV18 dc18 pm18 cd18 ct18 : Value}
    {od19 an19 : Option Addr} {sl19 : Array (Option Value)} {oc19 kV19 dc19 pm19 cd19 ct19 : Value}
    {od20 an20 : Option Addr} {sl20 : Array (Option Value)} {oc20 kV20 dc20 pm20 cd20 ct20 : Value}
    {od21 an21 : Option Addr} {sl21 : Array (Option Value)} {oc21 kV21 dc21 pm21 cd21 ct21 : Value}
    {od22 an22 : Option Addr} {sl22 : Array (Option Value)} {oc22 kV22 dc22 pm22 cd22 ct22 : Value}
    {od23 an23 : Option Addr} {sl23 : Array (Option Value)} {oc23 kV23 dc23 pm23 cd23 ct23 : Value}
    {od24 an24 : Option Addr} {sl24 : Array (Option Value)} {oc24 kV24 dc24 pm24 cd24 ct24 : Value}
    {od25 an25 : Option Addr} {sl25 : Array (Option Value)} {oc25 kV25 dc25 pm25 cd25 ct25 : Value}
    {od26 an26 : Option Addr} {sl26 : Array (Option Value)} {oc26 kV26 dc26 pm26 cd26 ct26 : Value}
    {od27 an27 : Option Addr} {sl27 : Array (Option Value)} {oc27 kV27 dc27 pm27 cd27 ct27 : Value}
    {od28 an28 : Option Addr} {sl28 : Array (Option Value)} {oc28 kV28 dc28 pm28 cd28 ct28 : Value}
    {od29 an29 : Option Addr} {sl29 : Array (Option Value)} {oc29 kV29 dc29 pm29 cd29 ct29 : Value}
    {od30 an30 : Option Addr} {sl30 : Array (Option Value)} {oc30 kV30 dc30 pm30 cd30 ct30 : Value}
    {od31 an31 : Option Addr} {sl31 : Array (Option Value)} {oc31 kV31 dc31 pm31 cd31 ct31 : Value}
    {od32 an32 : Option Addr} {sl32 : Array (Option Value)} {oc32 kV32 dc32 pm32 cd32 ct32 : Value}
    {od33 an33 : Option Addr} {sl33 : Array (Option Value)} {oc33 kV33 dc33 pm33 cd33 ct33 : Value}
    {od34 an34 : Option Addr} {sl34 : Array (Option Value)} {oc34 kV34 dc34 pm34 cd34 ct34 : Value}
    {od35 an35 : Option Addr} {sl35 : Array (Option Value)} {oc35 kV35 dc35 pm35 cd35 ct35 : Value}
    {od36 an36 : Option Addr} {sl36 : Array (Option Value)} {oc36 kV36 dc36 pm36 cd36 ct36 : Value}
    {od37 an37 : Option Addr} {sl37 : Array (Option Value)} {oc37 kV37 dc37 pm37 cd37 ct37 : Value}
    {od38 an38 : Option Addr} {sl38 : Array (Option Value)} {oc38 kV38 dc38 pm38 cd38 ct38 : Value}
    {od39 an39 : Option Addr} {sl39 : Array (Option Value)} {oc39 kV39 dc39 pm39 cd39 ct39 : Value}
    {od40 an40 : Option Addr} {sl40 : Array (Option Value)} {oc40 kV40 dc40 pm40 cd40 ct40 : Value}
    {od41 an41 : Option Addr} {sl41 : Array (Option Value)} {oc41 kV41 dc41 pm41 cd41 ct41 : Value}
    {od42 an42 : Option Addr} {sl42 : Array (Option Value)} {oc42 kV42 dc42 pm42 cd42 ct42 : Value}
    {od43 an43 : Option Addr} {sl43 : Array (Option Value)} {oc43 kV43 dc43 pm43 cd43 ct43 : Value}
    {od44 an44 : Option Addr} {sl44 : Array (Option Value)} {oc44 kV44 dc44 pm44 cd44 ct44 : Value}
    {od45 an45 : Option Addr} {sl45 : Array (Option Value)} {oc45 kV45 dc45 pm45 cd45 ct45 : Value}
    {od46 an46 : Option Addr} {sl46 : Array (Option Value)} {oc46 kV46 dc46 pm46 cd46 ct46 : Value}
    {od47 an47 : Option Addr} {sl47 : Array (Option Value)} {oc47 kV47 dc47 pm47 cd47 ct47 : Value}
    {tc12 : Value} {td12 : Option Addr} {tkd12 : PySem.Tok} {tn12 : Nat} {tl12 : Array (Option Value)}
    {rest13 : List Value}
    {rest14 : List Value}
    {tc20 : Value} {td20 : Option Addr} {tn20 : Nat} {tl20 : Array (Option Value)}
    {TD20_0 : Option Addr} {TN20_0 : Nat} {TS20_0 : Array (Option Value)}
    {nmx0 qx0 : Str} {Nx0 : Addr} {bsx0 : List Value} {snx0 : List Str} {subx0 : List Value} {abx0 : Bool} {colx0 : Option Bool} {ddx0 : Option Addr} {m0x0 m1x0 m2x0 m3x0 m5x0 : Option Value}
    {nmx1 qx1 : Str} {Nx1 : Addr} {bsx1 : List Value} {snx1 : List Str} {subx1 : List Value} {abx1 : Bool} {colx1 : Option Bool} {ddx1 : Option Addr} {m0x1 m1x1 m2x1 m3x1 m5x1 : Option Value}
    {nmx2 qx2 : Str} {Nx2 : Addr} {bsx2 : List Value} {snx2 : List Str} {subx2 : List Value} {abx2 : Bool} {colx2 : Option Bool} {ddx2 : Option Addr} {m0x2 m1x2 m2x2 m3x2 m5x2 : Option Value}
    {nmx3 qx3 : Str} {Nx3 : Addr} {bsx3 : List Value} {snx3 : List Str} {subx3 : List Value} {abx3 : Bool} {colx3 : Option Bool} {ddx3 : Option Addr} {m0x3 m1x3 m2x3 m3x3 m5x3 : Option Value}
    {nmx4 qx4 : Str} {Nx4 : Addr} {bsx4 : List Value} {snx4 : List Str} {subx4 : List Value} {abx4 : Bool} {colx4 : Option Bool} {ddx4 : Option Addr} {m0x4 m1x4 m2x4 m3x4 m5x4 : Option Value}
    {nmx5 qx5 : Str} {Nx5 : Addr} {bsx5 : List Value} {snx5 : List Str} {subx5 : List Value} {abx5 : Bool} {colx5 : Option Bool} {ddx5 : Option Addr} {m0x5 m1x5 m2x5 m3x5 m5x5 : Option Value}
    {tk_DIGITS tk_MOST_DIGITS tk_MOST_VALUE tk_MOST_WORD : PySem.Tok}
    (ax0 : PySem.W.nsIn K mainGlobals "OwnholesError" = some (some (.ref X0)))
    (ax1 : PySem.W.nsIn K mainGlobals "BadText" = some (some (.ref X1)))
    (ax2 : PySem.W.nsIn K mainGlobals "BadValue" = some (some (.ref X2)))
    (ax3 : PySem.W.nsIn K mainGlobals "Mismatch" = some (some (.ref X3)))
    (ax4 : PySem.W.nsIn K mainGlobals "NoLabel" = some (some (.ref X4)))
    (ax5 : PySem.W.nsIn K mainGlobals "Unused" = some (some (.ref X5)))
    (aC0 : PySem.W.nsIn K mainGlobals "Made" = some (some (.ref C0)))
    (aC1 : PySem.W.nsIn K mainGlobals "Piece" = some (some (.ref C1)))
    (aC2 : PySem.W.nsIn K mainGlobals "Template" = some (some (.ref C2)))
    (a0 : PySem.W.nsIn K mainGlobals "is_word" = some (some (.ref f0)))
    (l0 : K.lookup f0 = some ⟨oc0, od0, .func (PySem.W.fnOf "is_word" "is_word" (defArgs s_is_word) (defBody s_is_word) (defScope s_is_word) .none kV0 dc0 pm0 an0 cd0 ct0), sl0⟩)
    (c0 : PySem.W.codeIn K cd0 "is_word" = true)
    (k0 : PySem.W.keepIn K (.ref f0) = true)
    (a1 : PySem.W.nsIn K mainGlobals "is_count" = some (some (.ref f1)))
    (l1 : K.lookup f1 = some ⟨oc1, od1, .func (PySem.W.fnOf "is_count" "is_count" (defArgs s_is_count) (defBody s_is_count) (defScope s_is_count) .none kV1 dc1 pm1 an1 cd1 ct1), sl1⟩)
    (c1 : PySem.W.codeIn K cd1 "is_count" = true)
    (k1 : PySem.W.keepIn K (.ref f1) = true)
    (a2 : PySem.W.nsIn K mainGlobals "is_label" = some (some (.ref f2)))
    (l2 : K.lookup f2 = some ⟨oc2, od2, .func (PySem.W.fnOf "is_label" "is_label" (defArgs s_is_label) (defBody s_is_label) (defScope s_is_label) .none kV2 dc2 pm2 an2 cd2 ct2), sl2⟩)
    (c2 : PySem.W.codeIn K cd2 "is_label" = true)
    (k2 : PySem.W.keepIn K (.ref f2) = true)
    (a3 : PySem.W.nsIn K mainGlobals "is_value" = some (some (.ref f3)))
    (l3 : K.lookup f3 = some ⟨oc3, od3, .func (PySem.W.fnOf "is_value" "is_value" (defArgs s_is_value) (defBody s_is_value) (defScope s_is_value) .none kV3 dc3 pm3 an3 cd3 ct3), sl3⟩)
    (c3 : PySem.W.codeIn K cd3 "is_value" = true)
    (k3 : PySem.W.keepIn K (.ref f3) = true)
    (a4 : PySem.W.nsIn K mainGlobals "is_literal" = some (some (.ref f4)))
    (l4 : K.lookup f4 = some ⟨oc4, od4, .func (PySem.W.fnOf "is_literal" "is_literal" (defArgs s_is_literal) (defBody s_is_literal) (defScope s_is_literal) .none kV4 dc4 pm4 an4 cd4 ct4), sl4⟩)
    (c4 : PySem.W.codeIn K cd4 "is_literal" = true)
    (k4 : PySem.W.keepIn K (.ref f4) = true)
    (a5 : PySem.W.nsIn K mainGlobals "is_key" = some (some (.ref f5)))
    (l5 : K.lookup f5 = some ⟨oc5, od5, .func (PySem.W.fnOf "is_key" "is_key" (defArgs s_is_key) (defBody s_is_key) (defScope s_is_key) .none kV5 dc5 pm5 an5 cd5 ct5), sl5⟩)
    (c5 : PySem.W.codeIn K cd5 "is_key" = true)
    (k5 : PySem.W.keepIn K (.ref f5) = true)
    (a6 : PySem.W.nsIn K mainGlobals "check_value" = some (some (.ref f6)))
    (l6 : K.lookup f6 = some ⟨oc6, od6, .func (PySem.W.fnOf "check_value" "check_value" (defArgs s_check_value) (defBody s_check_value) (defScope s_check_value) .none kV6 dc6 pm6 an6 cd6 ct6), sl6⟩)
    (c6 : PySem.W.codeIn K cd6 "check_value" = true)
    (k6 : PySem.W.keepIn K (.ref f6) = true)
    (a7 : PySem.W.nsIn K mainGlobals "read_parts" = some (some (.ref f7)))
    (l7 : K.lookup f7 = some ⟨oc7, od7, .func (PySem.W.fnOf "read_parts" "read_parts" (defArgs s_read_parts) (defBody s_read_parts) (defScope s_read_parts) .none kV7 dc7 pm7 an7 cd7 ct7), sl7⟩)
    (c7 : PySem.W.codeIn K cd7 "read_parts" = true)
    (k7 : PySem.W.keepIn K (.ref f7) = true)
    (a8 : PySem.W.nsIn K mainGlobals "merged" = some (some (.ref f8)))
    (l8 : K.lookup f8 = some ⟨oc8, od8, .func (PySem.W.fnOf "merged" "merged" (defArgs s_merged) (defBody s_merged) (defScope s_merged) .none kV8 dc8 pm8 an8 cd8 ct8), sl8⟩)
    (c8 : PySem.W.codeIn K cd8 "merged" = true)
    (k8 : PySem.W.keepIn K (.ref f8) = true)
    (a9 : PySem.W.findIn K (.ref C0) "__init__" = some (some (.ref f9)))
    (i9 : PySem.W.isFn K (.ref f9) = true)
    (l9 : K.lookup f9 = some ⟨oc9, od9, .func (PySem.W.fnOf "__init__" "Made.__init__" (defArgs s_Made_init) (defBody s_Made_init) (defScope s_Made_init) .none kV9 dc9 pm9 an9 cd9 ct9), sl9⟩)
    (c9 : PySem.W.codeIn K cd9 "Made.__init__" = true)
    (k9 : PySem.W.keepIn K (.ref f9) = true)
    (a10 : PySem.W.nsIn K mainGlobals "valued" = some (some (.ref f10)))
    (l10 : K.lookup f10 = some ⟨oc10, od10, .func (PySem.W.fnOf "valued" "valued" (defArgs s_valued) (defBody s_valued) (defScope s_valued) .none kV10 dc10 pm10 an10 cd10 ct10), sl10⟩)
    (c10 : PySem.W.codeIn K cd10 "valued" = true)
    (k10 : PySem.W.keepIn K (.ref f10) = true)
    (a11 : PySem.W.nsIn K mainGlobals "template_of" = some (some (.ref f11)))
    (l11 : K.lookup f11 = some ⟨oc11, od11, .func (PySem.W.fnOf "template_of" "template_of" (defArgs s_template_of) (defBody s_template_of) (defScope s_template_of) .none kV11 dc11 pm11 an11 cd11 ct11), sl11⟩)
    (c11 : PySem.W.codeIn K cd11 "template_of" = true)
    (k11 : PySem.W.keepIn K (.ref f11) = true)
    (a12 : PySem.W.findIn K (.ref C1) "__init__" = some (some (.ref f12)))
    (i12 : PySem.W.isFn K (.ref f12) = true)
    (l12 : K.lookup f12 = some ⟨oc12, od12, .func (PySem.W.fnOf "__init__" "Piece.__init__" (defArgs s_Piece_init) (defBody s_Piece_init) (defScope s_Piece_init) (.ref dT12) kV12 dc12 pm12 an12 cd12 ct12), sl12⟩)
    (lT12 : K.lookup dT12 = some ⟨tc12, td12, .seq #[.str "" tkd12] tn12, tl12⟩)
    (c12 : PySem.W.codeIn K cd12 "Piece.__init__" = true)
    (k12 : PySem.W.keepIn K (.ref f12) = true)
    (pa13 : PySem.W.findCls K (.ref C1) (.type "type") "of" = some (.get (.builtin "classmethod.__get__") (.ref pr13) .none (.ref C1)))
    (pd13 : PySem.W.recIn K pr13 "classmethod" = some (.ref f13 :: rest13))
    (pf13 : PySem.W.fnIn K f13 = true)
    (l13 : K.lookup f13 = some ⟨oc13, od13, .func (PySem.W.fnOf "of" "Piece.of" (defArgs s_Piece_of) (defBody s_Piece_of) (defScope s_Piece_of) .none kV13 dc13 pm13 an13 cd13 ct13), sl13⟩)
    (c13 : PySem.W.codeIn K cd13 "Piece.of" = true)
    (k13 : PySem.W.keepIn K (.ref f13) = true)
    (pa14 : PySem.W.findIn K (.ref C1) "parts" = some (some (.ref pr14)))
    (pb14 : PySem.W.specialIn K (.ref pr14) "__get__" = some (some (.builtin "property.__get__")))
    (pc14 : PySem.W.takesIn K (.ref pr14) = some true)
    (pd14 : PySem.W.recIn K pr14 "property" = some (.ref f14 :: rest14))
    (l14 : K.lookup f14 = some ⟨oc14, od14, .func (PySem.W.fnOf "parts" "Piece.parts" (defArgs s_Piece_parts) (defBody s_Piece_parts) (defScope s_Piece_parts) .none kV14 dc14 pm14 an14 cd14 ct14), sl14⟩)
    (c14 : PySem.W.codeIn K cd14 "Piece.parts" = true)
    (k14 : PySem.W.keepIn K (.ref f14) = true)
    (a15 : PySem.W.findIn K (.ref C1) "holes" = some (some (.ref f15)))
    (i15 : PySem.W.isFn K (.ref f15) = true)
    (l15 : K.lookup f15 = some ⟨oc15, od15, .func (PySem.W.fnOf "holes" "Piece.holes" (defArgs s_Piece_holes) (defBody s_Piece_holes) (defScope s_Piece_holes) .none kV15 dc15 pm15 an15 cd15 ct15), sl15⟩)
    (c15 : PySem.W.codeIn K cd15 "Piece.holes" = true)
    (k15 : PySem.W.keepIn K (.ref f15) = true)
    (a16 : PySem.W.findIn K (.ref C1) "__len__" = some (some (.ref f16)))
    (i16 : PySem.W.isFn K (.ref f16) = true)
    (l16 : K.lookup f16 = some ⟨oc16, od16, .func (PySem.W.fnOf "__len__" "Piece.__len__" (defArgs s_Piece_len) (defBody s_Piece_len) (defScope s_Piece_len) .none kV16 dc16 pm16 an16 cd16 ct16), sl16⟩)
    (c16 : PySem.W.codeIn K cd16 "Piece.__len__" = true)
    (k16 : PySem.W.keepIn K (.ref f16) = true)
    (a17 : PySem.W.findIn K (.ref C1) "__bool__" = some (some (.ref f17)))
    (i17 : PySem.W.isFn K (.ref f17) = true)
    (l17 : K.lookup f17 = some ⟨oc17, od17, .func (PySem.W.fnOf "__bool__" "Piece.__bool__" (defArgs s_Piece_bool) (defBody s_Piece_bool) (defScope s_Piece_bool) .none kV17 dc17 pm17 an17 cd17 ct17), sl17⟩)
    (c17 : PySem.W.codeIn K cd17 "Piece.__bool__" = true)
    (k17 : PySem.W.keepIn K (.ref f17) = true)
    (a18 : PySem.W.findIn K (.ref C1) "__eq__" = some (some (.ref f18)))
    (i18 : PySem.W.isFn K (.ref f18) = true)
    (l18 : K.lookup f18 = some ⟨oc18, od18, .func (PySem.W.fnOf "__eq__" "Piece.__eq__" (defArgs s_Piece_eq) (defBody s_Piece_eq) (defScope s_Piece_eq) .none kV18 dc18 pm18 an18 cd18 ct18), sl18⟩)
    (c18 : PySem.W.codeIn K cd18 "Piece.__eq__" = true)
    (k18 : PySem.W.keepIn K (.ref f18) = true)
    (a19 : PySem.W.findIn K (.ref C2) "__init__" = some (some (.ref f19)))
    (i19 : PySem.W.isFn K (.ref f19) = true)
    (l19 : K.lookup f19 = some ⟨oc19, od19, .func (PySem.W.fnOf "__init__" "Template.__init__" (defArgs s_Template_init) (defBody s_Template_init) (defScope s_Template_init) .none kV19 dc19 pm19 an19 cd19 ct19), sl19⟩)
    (c19 : PySem.W.codeIn K cd19 "Template.__init__" = true)
    (k19 : PySem.W.keepIn K (.ref f19) = true)
    (a20 : PySem.W.findIn K (.ref C2) "__call__" = some (some (.ref f20)))
    (i20 : PySem.W.isFn K (.ref f20) = true)
    (l20 : K.lookup f20 = some ⟨oc20, od20, .func (PySem.W.fnOf "__call__" "Template.__call__" (defArgs s_Template_call) (defBody s_Template_call) (defScope s_Template_call) (.ref dT20) kV20 dc20 pm20 an20 cd20 ct20), sl20⟩)
    (lT20 : K.lookup dT20 = some ⟨tc20, td20, .seq #[.ref DT20_0, .none] tn20, tl20⟩)
    (lD20_0 : K.lookup DT20_0 = some ⟨.type "tuple", TD20_0, .seq #[] TN20_0, TS20_0⟩)
    (c20 : PySem.W.codeIn K cd20 "Template.__call__" = true)
    (k20 : PySem.W.keepIn K (.ref f20) = true)
    (a21 : PySem.W.findIn K (.ref X1) "__init__" = some (some (.ref f21)))
    (i21 : PySem.W.typeIn K (.ref f21) = some (.type "function"))
    (l21 : K.lookup f21 = some ⟨oc21, od21, .func (PySem.W.fnOf "__init__" "BadText.__init__" (defArgs s_BadText_init) (defBody s_BadText_init) (defScope s_BadText_init) .none kV21 dc21 pm21 an21 cd21 ct21), sl21⟩)
    (c21 : PySem.W.codeIn K cd21 "BadText.__init__" = true)
    (k21 : PySem.W.keepIn K (.ref f21) = true)
    (a22 : PySem.W.findIn K (.ref X2) "__init__" = some (some (.ref f22)))
    (i22 : PySem.W.typeIn K (.ref f22) = some (.type "function"))
    (l22 : K.lookup f22 = some ⟨oc22, od22, .func (PySem.W.fnOf "__init__" "BadValue.__init__" (defArgs s_BadValue_init) (defBody s_BadValue_init) (defScope s_BadValue_init) .none kV22 dc22 pm22 an22 cd22 ct22), sl22⟩)
    (c22 : PySem.W.codeIn K cd22 "BadValue.__init__" = true)
    (k22 : PySem.W.keepIn K (.ref f22) = true)
    (a23 : PySem.W.findIn K (.ref X3) "__init__" = some (some (.ref f23)))
    (i23 : PySem.W.typeIn K (.ref f23) = some (.type "function"))
    (l23 : K.lookup f23 = some ⟨oc23, od23, .func (PySem.W.fnOf "__init__" "Mismatch.__init__" (defArgs s_Mismatch_init) (defBody s_Mismatch_init) (defScope s_Mismatch_init) .none kV23 dc23 pm23 an23 cd23 ct23), sl23⟩)
    (c23 : PySem.W.codeIn K cd23 "Mismatch.__init__" = true)
    (k23 : PySem.W.keepIn K (.ref f23) = true)
    (a24 : PySem.W.findIn K (.ref X4) "__init__" = some (some (.ref f24)))
    (i24 : PySem.W.typeIn K (.ref f24) = some (.type "function"))
    (l24 : K.lookup f24 = some ⟨oc24, od24, .func (PySem.W.fnOf "__init__" "NoLabel.__init__" (defArgs s_NoLabel_init) (defBody s_NoLabel_init) (defScope s_NoLabel_init) .none kV24 dc24 pm24 an24 cd24 ct24), sl24⟩)
    (c24 : PySem.W.codeIn K cd24 "NoLabel.__init__" = true)
    (k24 : PySem.W.keepIn K (.ref f24) = true)
    (a25 : PySem.W.findIn K (.ref X5) "__init__" = some (some (.ref f25)))
    (i25 : PySem.W.typeIn K (.ref f25) = some (.type "function"))
    (l25 : K.lookup f25 = some ⟨oc25, od25, .func (PySem.W.fnOf "__init__" "Unused.__init__" (defArgs s_Unused_init) (defBody s_Unused_init) (defScope s_Unused_init) .none kV25 dc25 pm25 an25 cd25 ct25), sl25⟩)
    (c25 : PySem.W.codeIn K cd25 "Unused.__init__" = true)
    (k25 : PySem.W.keepIn K (.ref f25) = true)
    (a26 : PySem.W.nsIn K mainGlobals "_law_bag" = some (some (.ref f26)))
    (l26 : K.lookup f26 = some ⟨oc26, od26, .func (PySem.W.fnOf "_law_bag" "_law_bag" (defArgs s_l_bag) (defBody s_l_bag) (defScope s_l_bag) .none kV26 dc26 pm26 an26 cd26 ct26), sl26⟩)
    (c26 : PySem.W.codeIn K cd26 "_law_bag" = true)
    (k26 : PySem.W.keepIn K (.ref f26) = true)
    (a27 : PySem.W.nsIn K mainGlobals "_law_take" = some (some (.ref f27)))
    (l27 : K.lookup f27 = some ⟨oc27, od27, .func (PySem.W.fnOf "_law_take" "_law_take" (defArgs s_l_take) (defBody s_l_take) (defScope s_l_take) .none kV27 dc27 pm27 an27 cd27 ct27), sl27⟩)
    (c27 : PySem.W.codeIn K cd27 "_law_take" = true)
    (k27 : PySem.W.keepIn K (.ref f27) = true)
    (a28 : PySem.W.nsIn K mainGlobals "_law_of" = some (some (.ref f28)))
    (l28 : K.lookup f28 = some ⟨oc28, od28, .func (PySem.W.fnOf "_law_of" "_law_of" (defArgs s_l_of) (defBody s_l_of) (defScope s_l_of) .none kV28 dc28 pm28 an28 cd28 ct28), sl28⟩)
    (c28 : PySem.W.codeIn K cd28 "_law_of" = true)
    (k28 : PySem.W.keepIn K (.ref f28) = true)
    (a29 : PySem.W.nsIn K mainGlobals "_law_wide" = some (some (.ref f29)))
    (l29 : K.lookup f29 = some ⟨oc29, od29, .func (PySem.W.fnOf "_law_wide" "_law_wide" (defArgs s_l_wide) (defBody s_l_wide) (defScope s_l_wide) .none kV29 dc29 pm29 an29 cd29 ct29), sl29⟩)
    (c29 : PySem.W.codeIn K cd29 "_law_wide" = true)
    (k29 : PySem.W.keepIn K (.ref f29) = true)
    (a30 : PySem.W.nsIn K mainGlobals "_law_value" = some (some (.ref f30)))
    (l30 : K.lookup f30 = some ⟨oc30, od30, .func (PySem.W.fnOf "_law_value" "_law_value" (defArgs s_l_value) (defBody s_l_value) (defScope s_l_value) .none kV30 dc30 pm30 an30 cd30 ct30), sl30⟩)
    (c30 : PySem.W.codeIn K cd30 "_law_value" = true)
    (k30 : PySem.W.keepIn K (.ref f30) = true)
    (a31 : PySem.W.nsIn K mainGlobals "_law_labels" = some (some (.ref f31)))
    (l31 : K.lookup f31 = some ⟨oc31, od31, .func (PySem.W.fnOf "_law_labels" "_law_labels" (defArgs s_l_labels) (defBody s_l_labels) (defScope s_l_labels) .none kV31 dc31 pm31 an31 cd31 ct31), sl31⟩)
    (c31 : PySem.W.codeIn K cd31 "_law_labels" = true)
    (k31 : PySem.W.keepIn K (.ref f31) = true)
    (a32 : PySem.W.nsIn K mainGlobals "_law_literal" = some (some (.ref f32)))
    (l32 : K.lookup f32 = some ⟨oc32, od32, .func (PySem.W.fnOf "_law_literal" "_law_literal" (defArgs s_l_literal) (defBody s_l_literal) (defScope s_l_literal) .none kV32 dc32 pm32 an32 cd32 ct32), sl32⟩)
    (c32 : PySem.W.codeIn K cd32 "_law_literal" = true)
    (k32 : PySem.W.keepIn K (.ref f32) = true)
    (a33 : PySem.W.nsIn K mainGlobals "_law_merged" = some (some (.ref f33)))
    (l33 : K.lookup f33 = some ⟨oc33, od33, .func (PySem.W.fnOf "_law_merged" "_law_merged" (defArgs s_l_merged) (defBody s_l_merged) (defScope s_l_merged) .none kV33 dc33 pm33 an33 cd33 ct33), sl33⟩)
    (c33 : PySem.W.codeIn K cd33 "_law_merged" = true)
    (k33 : PySem.W.keepIn K (.ref f33) = true)
    (a34 : PySem.W.nsIn K mainGlobals "_law_text" = some (some (.ref f34)))
    (l34 : K.lookup f34 = some ⟨oc34, od34, .func (PySem.W.fnOf "_law_text" "_law_text" (defArgs s_l_text) (defBody s_l_text) (defScope s_l_text) .none kV34 dc34 pm34 an34 cd34 ct34), sl34⟩)
    (c34 : PySem.W.codeIn K cd34 "_law_text" = true)
    (k34 : PySem.W.keepIn K (.ref f34) = true)
    (a35 : PySem.W.nsIn K mainGlobals "_law_hole" = some (some (.ref f35)))
    (l35 : K.lookup f35 = some ⟨oc35, od35, .func (PySem.W.fnOf "_law_hole" "_law_hole" (defArgs s_l_hole) (defBody s_l_hole) (defScope s_l_hole) .none kV35 dc35 pm35 an35 cd35 ct35), sl35⟩)
    (c35 : PySem.W.codeIn K cd35 "_law_hole" = true)
    (k35 : PySem.W.keepIn K (.ref f35) = true)
    (a36 : PySem.W.nsIn K mainGlobals "_law_read" = some (some (.ref f36)))
    (l36 : K.lookup f36 = some ⟨oc36, od36, .func (PySem.W.fnOf "_law_read" "_law_read" (defArgs s_l_read) (defBody s_l_read) (defScope s_l_read) .none kV36 dc36 pm36 an36 cd36 ct36), sl36⟩)
    (c36 : PySem.W.codeIn K cd36 "_law_read" = true)
    (k36 : PySem.W.keepIn K (.ref f36) = true)
    (a37 : PySem.W.nsIn K mainGlobals "_law_spoilt" = some (some (.ref f37)))
    (l37 : K.lookup f37 = some ⟨oc37, od37, .func (PySem.W.fnOf "_law_spoilt" "_law_spoilt" (defArgs s_l_spoilt) (defBody s_l_spoilt) (defScope s_l_spoilt) .none kV37 dc37 pm37 an37 cd37 ct37), sl37⟩)
    (c37 : PySem.W.codeIn K cd37 "_law_spoilt" = true)
    (k37 : PySem.W.keepIn K (.ref f37) = true)
    (a38 : PySem.W.nsIn K mainGlobals "_law_odd" = some (some (.ref f38)))
    (l38 : K.lookup f38 = some ⟨oc38, od38, .func (PySem.W.fnOf "_law_odd" "_law_odd" (defArgs s_l_odd) (defBody s_l_odd) (defScope s_l_odd) .none kV38 dc38 pm38 an38 cd38 ct38), sl38⟩)
    (c38 : PySem.W.codeIn K cd38 "_law_odd" = true)
    (k38 : PySem.W.keepIn K (.ref f38) = true)
    (a39 : PySem.W.nsIn K mainGlobals "_law_parts" = some (some (.ref f39)))
    (l39 : K.lookup f39 = some ⟨oc39, od39, .func (PySem.W.fnOf "_law_parts" "_law_parts" (defArgs s_l_parts) (defBody s_l_parts) (defScope s_l_parts) .none kV39 dc39 pm39 an39 cd39 ct39), sl39⟩)
    (c39 : PySem.W.codeIn K cd39 "_law_parts" = true)
    (k39 : PySem.W.keepIn K (.ref f39) = true)
    (a40 : PySem.W.nsIn K mainGlobals "_law_values" = some (some (.ref f40)))
    (l40 : K.lookup f40 = some ⟨oc40, od40, .func (PySem.W.fnOf "_law_values" "_law_values" (defArgs s_l_values) (defBody s_l_values) (defScope s_l_values) .none kV40 dc40 pm40 an40 cd40 ct40), sl40⟩)
    (c40 : PySem.W.codeIn K cd40 "_law_values" = true)
    (k40 : PySem.W.keepIn K (.ref f40) = true)
    (a41 : PySem.W.nsIn K mainGlobals "_law_table" = some (some (.ref f41)))
    (l41 : K.lookup f41 = some ⟨oc41, od41, .func (PySem.W.fnOf "_law_table" "_law_table" (defArgs s_l_table) (defBody s_l_table) (defScope s_l_table) .none kV41 dc41 pm41 an41 cd41 ct41), sl41⟩)
    (c41 : PySem.W.codeIn K cd41 "_law_table" = true)
    (k41 : PySem.W.keepIn K (.ref f41) = true)
    (a42 : PySem.W.nsIn K mainGlobals "_law_is" = some (some (.ref f42)))
    (l42 : K.lookup f42 = some ⟨oc42, od42, .func (PySem.W.fnOf "_law_is" "_law_is" (defArgs s_l_is) (defBody s_l_is) (defScope s_l_is) .none kV42 dc42 pm42 an42 cd42 ct42), sl42⟩)
    (c42 : PySem.W.codeIn K cd42 "_law_is" = true)
    (k42 : PySem.W.keepIn K (.ref f42) = true)
    (a43 : PySem.W.nsIn K mainGlobals "_law_raised" = some (some (.ref f43)))
    (l43 : K.lookup f43 = some ⟨oc43, od43, .func (PySem.W.fnOf "_law_raised" "_law_raised" (defArgs s_l_raised) (defBody s_l_raised) (defScope s_l_raised) .none kV43 dc43 pm43 an43 cd43 ct43), sl43⟩)
    (c43 : PySem.W.codeIn K cd43 "_law_raised" = true)
    (k43 : PySem.W.keepIn K (.ref f43) = true)
    (a44 : PySem.W.nsIn K mainGlobals "_law_wrong" = some (some (.ref f44)))
    (l44 : K.lookup f44 = some ⟨oc44, od44, .func (PySem.W.fnOf "_law_wrong" "_law_wrong" (defArgs s_l_wrong) (defBody s_l_wrong) (defScope s_l_wrong) .none kV44 dc44 pm44 an44 cd44 ct44), sl44⟩)
    (c44 : PySem.W.codeIn K cd44 "_law_wrong" = true)
    (k44 : PySem.W.keepIn K (.ref f44) = true)
    (a45 : PySem.W.nsIn K mainGlobals "_law_valued" = some (some (.ref f45)))
    (l45 : K.lookup f45 = some ⟨oc45, od45, .func (PySem.W.fnOf "_law_valued" "_law_valued" (defArgs s_l_valued) (defBody s_l_valued) (defScope s_l_valued) .none kV45 dc45 pm45 an45 cd45 ct45), sl45⟩)
    (c45 : PySem.W.codeIn K cd45 "_law_valued" = true)
    (k45 : PySem.W.keepIn K (.ref f45) = true)
    (a46 : PySem.W.nsIn K mainGlobals "_law_errors" = some (some (.ref f46)))
    (l46 : K.lookup f46 = some ⟨oc46, od46, .func (PySem.W.fnOf "_law_errors" "_law_errors" (defArgs s_l_errors) (defBody s_l_errors) (defScope s_l_errors) .none kV46 dc46 pm46 an46 cd46 ct46), sl46⟩)
    (c46 : PySem.W.codeIn K cd46 "_law_errors" = true)
    (k46 : PySem.W.keepIn K (.ref f46) = true)
    (a47 : PySem.W.nsIn K mainGlobals "law" = some (some (.ref f47)))
    (l47 : K.lookup f47 = some ⟨oc47, od47, .func (PySem.W.fnOf "law" "law" (defArgs s_law) (defBody s_law) (defScope s_law) .none kV47 dc47 pm47 an47 cd47 ct47), sl47⟩)
    (c47 : PySem.W.codeIn K cd47 "law" = true)
    (k47 : PySem.W.keepIn K (.ref f47) = true)
    (pg0 : PySem.W.plainGet K C0 Str.empty = true)
    (hd0 : PySem.W.hasDictIn K C0 = true)
    (po0 : PySem.W.plainOver K C0 = true)
    (sa0 : PySem.W.findIn K (.ref C0) "__setattr__" = some (some (.builtin "object.__setattr__")))
    (mk0 : PySem.W.makesIn K C0 = true)
    (kc0 : PySem.W.keepIn K (.ref C0) = true)
    (w0 : PySem.W.findIn K (.ref C0) "__class__" = some (some (.builtin "object.__class__")))
    (x0 : PySem.W.mroIn K C0 (.type "object") = some true)
    (ki0_str : PySem.W.kitOne K (.type "str") (.ref C0) = some false)
    (n0_0 : PySem.W.findIn K (.ref C0) "cells" = some none)
    (n0_1 : PySem.W.findIn K (.ref C0) "level" = some none)
    (pg1 : PySem.W.plainGet K C1 Str.empty = true)
    (hd1 : PySem.W.hasDictIn K C1 = true)
    (po1 : PySem.W.plainOver K C1 = true)
    (sa1 : PySem.W.findIn K (.ref C1) "__setattr__" = some (some (.builtin "object.__setattr__")))
    (mk1 : PySem.W.makesIn K C1 = true)
    (kc1 : PySem.W.keepIn K (.ref C1) = true)
    (w1 : PySem.W.findIn K (.ref C1) "__class__" = some (some (.builtin "object.__class__")))
    (x1 : PySem.W.mroIn K C1 (.type "object") = some true)
    (ki1_str : PySem.W.kitOne K (.type "str") (.ref C1) = some false)
    (ki1_list : PySem.W.kitOne K (.type "list") (.ref C1) = some false)
    (ki1_int : PySem.W.kitOne K (.type "int") (.ref C1) = some false)
    (rd1 : PySem.W.readsIn K C1 (.type "type") = true)
    (rg1 : PySem.W.specialIn K (.ref C1) "__getattribute__" = some (some (.builtin "type.__getattribute__")))
    (n1_0 : PySem.W.findIn K (.ref C1) "cells" = some none)
    (n1_1 : PySem.W.findIn K (.ref C1) "level" = some none)
    (n1_2 : PySem.W.findIn K (.ref C1) "text" = some none)
    (pg2 : PySem.W.plainGet K C2 Str.empty = true)
    (hd2 : PySem.W.hasDictIn K C2 = true)
    (po2 : PySem.W.plainOver K C2 = true)
    (sa2 : PySem.W.findIn K (.ref C2) "__setattr__" = some (some (.builtin "object.__setattr__")))
    (mk2 : PySem.W.makesIn K C2 = true)
    (kc2 : PySem.W.keepIn K (.ref C2) = true)
    (fi20 : PySem.W.fnIn K f20 = true)
    (n2_0 : PySem.W.findIn K (.ref C2) "text" = some none)
    (n2_1 : PySem.W.findIn K (.ref C2) "labels" = some none)
    (n2_2 : PySem.W.findIn K (.ref C2) "places" = some none)
    (xL0 : K.lookup X0 = some (excClassObj nmx0 qx0 X0 Nx0 bsx0 [.type "ValueError", .type "Exception", .type "BaseException", .type "object"] true snx0 subx0 abx0 colx0 ddx0 m0x0 m1x0 m2x0 m3x0 m5x0 "ValueError.__new__"))
    (sax0 : PySem.W.findIn K (.ref X0) "__setattr__" = some (some (.builtin "object.__setattr__")))
    (gax0 : PySem.W.findIn K (.ref X0) "__getattribute__" = some (some (.builtin "BaseException.__getattribute__")))
    (ggx0 : PySem.W.findIn K (.ref X0) "__getattr__" = some none)
    (eCx0 : PySem.W.subIn K (.ref X0) (.type "BaseException") = some true)
    (tCx0 : PySem.W.typeIn K (.ref X0) = some (.type "type"))
    (hCx0 : PySem.W.hasDictIn K X0 = true)
    (kXx0 : PySem.W.keepIn K (.ref X0) = true)
    (hax0 : PySem.W.findIn K (.ref X0) "__class__" = some (some (.builtin "object.__class__")))
    (hmx0 : PySem.W.mroIn K X0 (.type "object") = some true)
    (sx0_0 : PySem.W.subIn K (.ref X0) (.ref X0) = some true)
    (sx0_1 : PySem.W.subIn K (.ref X0) (.ref X1) = some false)
    (sx0_2 : PySem.W.subIn K (.ref X0) (.ref X2) = some false)
    (sx0_3 : PySem.W.subIn K (.ref X0) (.ref X3) = some false)
    (sx0_4 : PySem.W.subIn K (.ref X0) (.ref X4) = some false)
    (sx0_5 : PySem.W.subIn K (.ref X0) (.ref X5) = some false)
    (xL1 : K.lookup X1 = some (excClassObj nmx1 qx1 X1 Nx1 bsx1 [.ref X0, .type "ValueError", .type "Exception", .type "BaseException", .type "object"] true snx1 subx1 abx1 colx1 ddx1 m0x1 m1x1 m2x1 m3x1 m5x1 "ValueError.__new__"))
    (sax1 : PySem.W.findIn K (.ref X1) "__setattr__" = some (some (.builtin "object.__setattr__")))
    (gax1 : PySem.W.findIn K (.ref X1) "__getattribute__" = some (some (.builtin "BaseException.__getattribute__")))
    (ggx1 : PySem.W.findIn K (.ref X1) "__getattr__" = some none)
    (eCx1 : PySem.W.subIn K (.ref X1) (.type "BaseException") = some true)
    (tCx1 : PySem.W.typeIn K (.ref X1) = some (.type "type"))
    (hCx1 : PySem.W.hasDictIn K X1 = true)
    (kXx1 : PySem.W.keepIn K (.ref X1) = true)
    (hax1 : PySem.W.findIn K (.ref X1) "__class__" = some (some (.builtin "object.__class__")))
    (hmx1 : PySem.W.mroIn K X1 (.type "object") = some true)
    (nx1_0 : PySem.W.findIn K (.ref X1) "at" = some none)
    (sx1_0 : PySem.W.subIn K (.ref X1) (.ref X0) = some true)
    (sx1_1 : PySem.W.subIn K (.ref X1) (.ref X1) = some true)
    (sx1_2 : PySem.W.subIn K (.ref X1) (.ref X2) = some false)
    (sx1_3 : PySem.W.subIn K (.ref X1) (.ref X3) = some false)
    (sx1_4 : PySem.W.subIn K (.ref X1) (.ref X4) = some false)
    (sx1_5 : PySem.W.subIn K (.ref X1) (.ref X5) = some false)
    (xL2 : K.lookup X2 = some (excClassObj nmx2 qx2 X2 Nx2 bsx2 [.ref X0, .type "ValueError", .type "Exception", .type "BaseException", .type "object"] true snx2 subx2 abx2 colx2 ddx2 m0x2 m1x2 m2x2 m3x2 m5x2 "ValueError.__new__"))
    (sax2 : PySem.W.findIn K (.ref X2) "__setattr__" = some (some (.builtin "object.__setattr__")))
    (gax2 : PySem.W.findIn K (.ref X2) "__getattribute__" = some (some (.builtin "BaseException.__getattribute__")))
    (ggx2 : PySem.W.findIn K (.ref X2) "__getattr__" = some none)
    (eCx2 : PySem.W.subIn K (.ref X2) (.type "BaseException") = some true)
    (tCx2 : PySem.W.typeIn K (.ref X2) = some (.type "type"))
    (hCx2 : PySem.W.hasDictIn K X2 = true)
    (kXx2 : PySem.W.keepIn K (.ref X2) = true)
    (hax2 : PySem.W.findIn K (.ref X2) "__class__" = some (some (.builtin "object.__class__")))
    (hmx2 : PySem.W.mroIn K X2 (.type "object") = some true)
    (nx2_0 : PySem.W.findIn K (.ref X2) "value" = some none)
    (sx2_0 : PySem.W.subIn K (.ref X2) (.ref X0) = some true)
    (sx2_1 : PySem.W.subIn K (.ref X2) (.ref X1) = some false)
    (sx2_2 : PySem.W.subIn K (.ref X2) (.ref X2) = some true)
    (sx2_3 : PySem.W.subIn K (.ref X2) (.ref X3) = some false)
    (sx2_4 : PySem.W.subIn K (.ref X2) (.ref X4) = some false)
    (sx2_5 : PySem.W.subIn K (.ref X2) (.ref X5) = some false)
    (xL3 : K.lookup X3 = some (excClassObj nmx3 qx3 X3 Nx3 bsx3 [.ref X0, .type "ValueError", .type "Exception", .type "BaseException", .type "object"] true snx3 subx3 abx3 colx3 ddx3 m0x3 m1x3 m2x3 m3x3 m5x3 "ValueError.__new__"))
    (sax3 : PySem.W.findIn K (.ref X3) "__setattr__" = some (some (.builtin "object.__setattr__")))
    (gax3 : PySem.W.findIn K (.ref X3) "__getattribute__" = some (some (.builtin "BaseException.__getattribute__")))
    (ggx3 : PySem.W.findIn K (.ref X3) "__getattr__" = some none)
    (eCx3 : PySem.W.subIn K (.ref X3) (.type "BaseException") = some true)
    (tCx3 : PySem.W.typeIn K (.ref X3) = some (.type "type"))
    (hCx3 : PySem.W.hasDictIn K X3 = true)
    (kXx3 : PySem.W.keepIn K (.ref X3) = true)
    (hax3 : PySem.W.findIn K (.ref X3) "__class__" = some (some (.builtin "object.__class__")))
    (hmx3 : PySem.W.mroIn K X3 (.type "object") = some true)
    (nx3_0 : PySem.W.findIn K (.ref X3) "wanted" = some none)
    (nx3_1 : PySem.W.findIn K (.ref X3) "got" = some none)
    (sx3_0 : PySem.W.subIn K (.ref X3) (.ref X0) = some true)
    (sx3_1 : PySem.W.subIn K (.ref X3) (.ref X1) = some false)
    (sx3_2 : PySem.W.subIn K (.ref X3) (.ref X2) = some false)
    (sx3_3 : PySem.W.subIn K (.ref X3) (.ref X3) = some true)
    (sx3_4 : PySem.W.subIn K (.ref X3) (.ref X4) = some false)
    (sx3_5 : PySem.W.subIn K (.ref X3) (.ref X5) = some false)
    (xL4 : K.lookup X4 = some (excClassObj nmx4 qx4 X4 Nx4 bsx4 [.ref X0, .type "ValueError", .type "Exception", .type "BaseException", .type "object"] true snx4 subx4 abx4 colx4 ddx4 m0x4 m1x4 m2x4 m3x4 m5x4 "ValueError.__new__"))
    (sax4 : PySem.W.findIn K (.ref X4) "__setattr__" = some (some (.builtin "object.__setattr__")))
    (gax4 : PySem.W.findIn K (.ref X4) "__getattribute__" = some (some (.builtin "BaseException.__getattribute__")))
    (ggx4 : PySem.W.findIn K (.ref X4) "__getattr__" = some none)
    (eCx4 : PySem.W.subIn K (.ref X4) (.type "BaseException") = some true)
    (tCx4 : PySem.W.typeIn K (.ref X4) = some (.type "type"))
    (hCx4 : PySem.W.hasDictIn K X4 = true)
    (kXx4 : PySem.W.keepIn K (.ref X4) = true)
    (hax4 : PySem.W.findIn K (.ref X4) "__class__" = some (some (.builtin "object.__class__")))
    (hmx4 : PySem.W.mroIn K X4 (.type "object") = some true)
    (nx4_0 : PySem.W.findIn K (.ref X4) "label" = some none)
    (sx4_0 : PySem.W.subIn K (.ref X4) (.ref X0) = some true)
    (sx4_1 : PySem.W.subIn K (.ref X4) (.ref X1) = some false)
    (sx4_2 : PySem.W.subIn K (.ref X4) (.ref X2) = some false)
    (sx4_3 : PySem.W.subIn K (.ref X4) (.ref X3) = some false)
    (sx4_4 : PySem.W.subIn K (.ref X4) (.ref X4) = some true)
    (sx4_5 : PySem.W.subIn K (.ref X4) (.ref X5) = some false)
    (xL5 : K.lookup X5 = some (excClassObj nmx5 qx5 X5 Nx5 bsx5 [.ref X0, .type "ValueError", .type "Exception", .type "BaseException", .type "object"] true snx5 subx5 abx5 colx5 ddx5 m0x5 m1x5 m2x5 m3x5 m5x5 "ValueError.__new__"))
    (sax5 : PySem.W.findIn K (.ref X5) "__setattr__" = some (some (.builtin "object.__setattr__")))
    (gax5 : PySem.W.findIn K (.ref X5) "__getattribute__" = some (some (.builtin "BaseException.__getattribute__")))
    (ggx5 : PySem.W.findIn K (.ref X5) "__getattr__" = some none)
    (eCx5 : PySem.W.subIn K (.ref X5) (.type "BaseException") = some true)
    (tCx5 : PySem.W.typeIn K (.ref X5) = some (.type "type"))
    (hCx5 : PySem.W.hasDictIn K X5 = true)
    (kXx5 : PySem.W.keepIn K (.ref X5) = true)
    (hax5 : PySem.W.findIn K (.ref X5) "__class__" = some (some (.builtin "object.__class__")))
    (hmx5 : PySem.W.mroIn K X5 (.type "object") = some true)
    (nx5_0 : PySem.W.findIn K (.ref X5) "label" = some none)
    (sx5_0 : PySem.W.subIn K (.ref X5) (.ref X0) = some true)
    (sx5_1 : PySem.W.subIn K (.ref X5) (.ref X1) = some false)
    (sx5_2 : PySem.W.subIn K (.ref X5) (.ref X2) = some false)
    (sx5_3 : PySem.W.subIn K (.ref X5) (.ref X3) = some false)
    (sx5_4 : PySem.W.subIn K (.ref X5) (.ref X4) = some false)
    (sx5_5 : PySem.W.subIn K (.ref X5) (.ref X5) = some true)
    (y0 : PySem.W.specialIn K (.builtin "object.__class__") "__get__" = some (some (.builtin "getset_descriptor.__get__")))
    (y1 : PySem.W.takesIn K (.builtin "object.__class__") = some true)
    (kst_DIGITS : PySem.W.nsIn K mainGlobals "DIGITS" = some (some (.str "0123456789" tk_DIGITS)))
    (kst_MOST_DIGITS : PySem.W.nsIn K mainGlobals "MOST_DIGITS" = some (some (.int 6 tk_MOST_DIGITS)))
    (kst_MOST_VALUE : PySem.W.nsIn K mainGlobals "MOST_VALUE" = some (some (.int 10000000000000000000000000000000000000000 tk_MOST_VALUE)))
    (kst_MOST_WORD : PySem.W.nsIn K mainGlobals "MOST_WORD" = some (some (.int 8 tk_MOST_WORD)))
    (z0 : PySem.W.nsIn K mainGlobals "abs" = some none)
    (z1 : PySem.W.nsIn K mainGlobals "all" = some none)
    (z2 : PySem.W.nsIn K mainGlobals "bool" = some none)
    (z3 : PySem.W.nsIn K mainGlobals "enumerate" = some none)
    (z4 : PySem.W.nsIn K mainGlobals "int" = some none)
    (z5 : PySem.W.nsIn K mainGlobals "isinstance" = some none)
    (z6 : PySem.W.nsIn K mainGlobals "len" = some none)
    (z7 : PySem.W.nsIn K mainGlobals "list" = some none)
    (z8 : PySem.W.nsIn K mainGlobals "max" = some none)
    (z9 : PySem.W.nsIn K mainGlobals "min" = some none)
    (z10 : PySem.W.nsIn K mainGlobals "ord" = some none)
    (z11 : PySem.W.nsIn K mainGlobals "range" = some none)
    (z12 : PySem.W.nsIn K mainGlobals "repr" = some none)
    (z13 : PySem.W.nsIn K mainGlobals "sorted" = some none)
    (z14 : PySem.W.nsIn K mainGlobals "str" = some none)
    (z15 : PySem.W.nsIn K mainGlobals "tuple" = some none)
    (z16 : PySem.W.nsIn K mainGlobals "zip" = some none) :
    ∃ fd : FuncData, (∀ (s : Shared) (v : Value), BindsTo s fd ⟨[v], []⟩ [("_law_script", v)]) ∧ ∀ base : Heap, K.In base → base.Ns mainGlobals mg → Gd.FnG l.prog w K mg base CX0 15 fa fd ["_law_script"] (sp_law K) := by
  have e := hfa.symm.trans (PySem.W.mg_of X G a47)
  cases e
  have F0 := fun_mk (st := s_is_word) l0 c0 k0
  have F1 := fun_mk (st := s_is_count) l1 c1 k1
  have F2 := fun_mk (st := s_is_label) l2 c2 k2
  have F3 := fun_mk (st := s_is_value) l3 c3 k3
  have F4 := fun_mk (st := s_is_literal) l4 c4 k4
  have F5 := fun_mk (st := s_is_key) l5 c5 k5
  have F6 := fun_mk (st := s_check_value) l6 c6 k6
  have F7 := fun_mk (st := s_read_parts) l7 c7 k7
  have F8 := fun_mk (st := s_merged) l8 c8 k8
  have F9 := fun_mk (st := s_Made_init) l9 c9 k9
  have F10 := fun_mk (st := s_valued) l10 c10 k10
  have F11 := fun_mk (st := s_template_of) l11 c11 k11
  have F12 : Pz.FunS K "__init__" "Piece.__init__" s_Piece_init "self" "text" "values" "named" (.str "") f12 := ⟨oc12, od12, dT12, _, _, tn12, kV12, dc12, pm12, an12, cd12, ct12, sl12, l12, lT12, rfl, ⟨_, rfl⟩, c12, (fun _ _ rest => match rest with | [] => ⟨_, rfl, rfl⟩ | _ :: _ => ⟨_, rfl, rfl⟩), fun _ => ⟨_, rfl, rfl⟩⟩
  have F13 := fun_mk (st := s_Piece_of) l13 c13 k13
  have F14 := fun_mk (st := s_Piece_parts) l14 c14 k14
  have F15 := fun_mk (st := s_Piece_holes) l15 c15 k15
  have F16 := fun_mk (st := s_Piece_len) l16 c16 k16
  have F17 := fun_mk (st := s_Piece_bool) l17 c17 k17
  have F18 := fun_mk (st := s_Piece_eq) l18 c18 k18
  have F19 := fun_mk (st := s_Template_init) l19 c19 k19
  have F20 : Co.FunP K "__call__" "Template.__call__" s_Template_call ["self", "values", "table"] [.ref DT20_0, .non] f20 _ := ⟨⟨oc20, od20, .ref dT20, kV20, dc20, pm20, an20, cd20, ct20, sl20, rfl, l20, c20, .inr ⟨(fun z => nomatch z), dT20, _, [.ref DT20_0, .none], tn20, rfl, lT20, rfl, (.cons rfl (.cons rfl .nil))⟩, .inl rfl⟩, k20⟩
  have F21 := fun_mk (st := s_BadText_init) l21 c21 k21
  have F22 := fun_mk (st := s_BadValue_init) l22 c22 k22
  have F23 := fun_mk (st := s_Mismatch_init) l23 c23 k23
  have F24 := fun_mk (st := s_NoLabel_init) l24 c24 k24
  have F25 := fun_mk (st := s_Unused_init) l25 c25 k25
  have F26 := fun_mk (st := s_l_bag) l26 c26 k26
  have F27 := fun_mk (st := s_l_take) l27 c27 k27
  have F28 := fun_mk (st := s_l_of) l28 c28 k28
  have F29 := fun_mk (st := s_l_wide) l29 c29 k29
  have F30 := fun_mk (st := s_l_value) l30 c30 k30
  have F31 := fun_mk (st := s_l_labels) l31 c31 k31
  have F32 := fun_mk (st := s_l_literal) l32 c32 k32
  have F33 := fun_mk (st := s_l_merged) l33 c33 k33
  have F34 := fun_mk (st := s_l_text) l34 c34 k34
  have F35 := fun_mk (st := s_l_hole) l35 c35 k35
  have F36 := fun_mk (st := s_l_read) l36 c36 k36
  have F37 := fun_mk (st := s_l_spoilt) l37 c37 k37
  have F38 := fun_mk (st := s_l_odd) l38 c38 k38
  have F39 := fun_mk (st := s_l_parts) l39 c39 k39
  have F40 := fun_mk (st := s_l_values) l40 c40 k40
  have F41 := fun_mk (st := s_l_table) l41 c41 k41
  have F42 := fun_mk (st := s_l_is) l42 c42 k42
  have F43 := fun_mk (st := s_l_raised) l43 c43 k43
  have F44 := fun_mk (st := s_l_wrong) l44 c44 k44
  have F45 := fun_mk (st := s_l_valued) l45 c45 k45
  have F46 := fun_mk (st := s_l_errors) l46 c46 k46
  have F47 := fun_mk (st := s_law) l47 c47 k47
  have b0 := F0.binds (ps := ["thing"]) fun _ _ _ _ _ _ us hl => match us, hl with | [_], _ => rfl
  have b1 := F1.binds (ps := ["text"]) fun _ _ _ _ _ _ us hl => match us, hl with | [_], _ => rfl
  have b2 := F2.binds (ps := ["thing"]) fun _ _ _ _ _ _ us hl => match us, hl with | [_], _ => rfl
  have b3 := F3.binds (ps := ["thing"]) fun _ _ _ _ _ _ us hl => match us, hl with | [_], _ => rfl
  have b4 := F4.binds (ps := ["sign"]) fun _ _ _ _ _ _ us hl => match us, hl with | [_], _ => rfl
  have b5 := F5.binds (ps := ["key", "kind"]) fun _ _ _ _ _ _ us hl => match us, hl with | [_, _], _ => rfl
  have b6 := F6.binds (ps := ["thing"]) fun _ _ _ _ _ _ us hl => match us, hl with | [_], _ => rfl
  have b7 := F7.binds (ps := ["text", "kind"]) fun _ _ _ _ _ _ us hl => match us, hl with | [_, _], _ => rfl
  have b8 := F8.binds (ps := ["parts"]) fun _ _ _ _ _ _ us hl => match us, hl with | [_], _ => rfl
  have b9 := F9.binds (ps := ["self", "cells", "level"]) fun _ _ _ _ _ _ us hl => match us, hl with | [_, _, _], _ => rfl
  have b10 := F10.binds (ps := ["text", "values", "named"]) fun _ _ _ _ _ _ us hl => match us, hl with | [_, _, _], _ => rfl
  have b11 := F11.binds (ps := ["cells"]) fun _ _ _ _ _ _ us hl => match us, hl with | [_], _ => rfl
  have b13 := F13.binds (ps := ["cls", "text", "values", "table"]) fun _ _ _ _ _ _ us hl => match us, hl with | [_, _, _, _], _ => rfl
  have b14 := F14.binds (ps := ["self"]) fun _ _ _ _ _ _ us hl => match us, hl with | [_], _ => rfl
  have b15 := F15.binds (ps := ["self"]) fun _ _ _ _ _ _ us hl => match us, hl with | [_], _ => rfl
  have b16 := F16.binds (ps := ["self"]) fun _ _ _ _ _ _ us hl => match us, hl with | [_], _ => rfl
  have b17 := F17.binds (ps := ["self"]) fun _ _ _ _ _ _ us hl => match us, hl with | [_], _ => rfl
  have b18 := F18.binds (ps := ["self", "other"]) fun _ _ _ _ _ _ us hl => match us, hl with | [_, _], _ => rfl
  have b19 := F19.binds (ps := ["self", "text"]) fun _ _ _ _ _ _ us hl => match us, hl with | [_, _], _ => rfl
  have bp20_0 := F20.fD.binds1 (ps := ["self", "values", "table"]) 1 0 (fun z => nomatch z) rfl fun T kV doc pm an cdv ct us its h1 h2 => match us, its, h1, h2 with | [_], [_, _], _, _ => ⟨_, rfl, rfl⟩
  have bp20_1 := F20.fD.binds1 (ps := ["self", "values", "table"]) 2 1 (fun z => nomatch z) rfl fun T kV doc pm an cdv ct us its h1 h2 => match us, its, h1, h2 with | [_, _], [_, _], _, _ => ⟨_, rfl, rfl⟩
  have bp20_2 := F20.fD.binds1 (ps := ["self", "values", "table"]) 3 2 (fun z => nomatch z) rfl fun T kV doc pm an cdv ct us its h1 h2 => match us, its, h1, h2 with | [_, _, _], [_, _], _, _ => ⟨_, rfl, rfl⟩
  have b21 := F21.binds (ps := ["self", "at"]) fun _ _ _ _ _ _ us hl => match us, hl with | [_, _], _ => rfl
  have b22 := F22.binds (ps := ["self", "value"]) fun _ _ _ _ _ _ us hl => match us, hl with | [_, _], _ => rfl
  have b23 := F23.binds (ps := ["self", "wanted", "got"]) fun _ _ _ _ _ _ us hl => match us, hl with | [_, _, _], _ => rfl
  have b24 := F24.binds (ps := ["self", "label"]) fun _ _ _ _ _ _ us hl => match us, hl with | [_, _], _ => rfl
  have b25 := F25.binds (ps := ["self", "label"]) fun _ _ _ _ _ _ us hl => match us, hl with | [_, _], _ => rfl
  have b26 := F26.binds (ps := ["_law_script", "_law_at"]) fun _ _ _ _ _ _ us hl => match us, hl with | [_, _], _ => rfl
  have b27 := F27.binds (ps := ["_law_bag_here", "_law_many"]) fun _ _ _ _ _ _ us hl => match us, hl with | [_, _], _ => rfl
  have b28 := F28.binds (ps := ["_law_bag_here", "_law_some"]) fun _ _ _ _ _ _ us hl => match us, hl with | [_, _], _ => rfl
  have b29 := F29.binds (ps := ["_law_bag_here", "_law_many"]) fun _ _ _ _ _ _ us hl => match us, hl with | [_, _], _ => rfl
  have b30 := F30.binds (ps := ["_law_bag_here"]) fun _ _ _ _ _ _ us hl => match us, hl with | [_], _ => rfl
  have b31 := F31.binds (ps := ["_law_bag_here", "_law_many"]) fun _ _ _ _ _ _ us hl => match us, hl with | [_, _], _ => rfl
  have b32 := F32.binds (ps := ["_law_bag_here", "_law_limit"]) fun _ _ _ _ _ _ us hl => match us, hl with | [_, _], _ => rfl
  have b33 := F33.binds (ps := ["_law_parts_here"]) fun _ _ _ _ _ _ us hl => match us, hl with | [_], _ => rfl
  have b34 := F34.binds (ps := ["_law_parts_here"]) fun _ _ _ _ _ _ us hl => match us, hl with | [_], _ => rfl
  have b35 := F35.binds (ps := ["_law_text_here", "_law_at", "_law_kind"]) fun _ _ _ _ _ _ us hl => match us, hl with | [_, _, _], _ => rfl
  have b36 := F36.binds (ps := ["_law_text_here", "_law_kind"]) fun _ _ _ _ _ _ us hl => match us, hl with | [_, _], _ => rfl
  have b37 := F37.binds (ps := ["_law_bag_here", "_law_text_here"]) fun _ _ _ _ _ _ us hl => match us, hl with | [_, _], _ => rfl
  have b38 := F38.binds (ps := ["_law_bag_here"]) fun _ _ _ _ _ _ us hl => match us, hl with | [_], _ => rfl
  have b39 := F39.binds (ps := ["_law_bag_here", "_law_labels_here", "_law_most"]) fun _ _ _ _ _ _ us hl => match us, hl with | [_, _, _], _ => rfl
  have b40 := F40.binds (ps := ["_law_parts_here"]) fun _ _ _ _ _ _ us hl => match us, hl with | [_], _ => rfl
  have b41 := F41.binds (ps := ["_law_parts_here"]) fun _ _ _ _ _ _ us hl => match us, hl with | [_], _ => rfl
  have b42 := F42.binds (ps := ["_law_piece", "_law_parts_here", "_law_level"]) fun _ _ _ _ _ _ us hl => match us, hl with | [_, _, _], _ => rfl
  have b43 := F43.binds (ps := ["_law_template", "_law_values_here", "_law_table_here"]) fun _ _ _ _ _ _ us hl => match us, hl with | [_, _, _], _ => rfl
  have b44 := F44.binds (ps := ["_law_text_here"]) fun _ _ _ _ _ _ us hl => match us, hl with | [_], _ => rfl
  have b45 := F45.binds (ps := ["_law_parts_here", "_law_bag_here"]) fun _ _ _ _ _ _ us hl => match us, hl with | [_, _], _ => rfl
  have b46 := F46.binds (ps := ["_law_template", "_law_parts_here", "_law_bag_here"]) fun _ _ _ _ _ _ us hl => match us, hl with | [_, _, _], _ => rfl
  have b47 := F47.binds (ps := ["_law_script"]) fun _ _ _ _ _ _ us hl => match us, hl with | [_], _ => rfl
  have T : Txt K mg ⟨f0, PySem.W.fnOf "is_word" "is_word" (defArgs s_is_word) (defBody s_is_word) (defScope s_is_word) .none kV0 dc0 pm0 an0 cd0 ct0, f1, PySem.W.fnOf "is_count" "is_count" (defArgs s_is_count) (defBody s_is_count) (defScope s_is_count) .none kV1 dc1 pm1 an1 cd1 ct1, f2, PySem.W.fnOf "is_label" "is_label" (defArgs s_is_label) (defBody s_is_label) (defScope s_is_label) .none kV2 dc2 pm2 an2 cd2 ct2, f3, PySem.W.fnOf "is_value" "is_value" (defArgs s_is_value) (defBody s_is_value) (defScope s_is_value) .none kV3 dc3 pm3 an3 cd3 ct3, f4, PySem.W.fnOf "is_literal" "is_literal" (defArgs s_is_literal) (defBody s_is_literal) (defScope s_is_literal) .none kV4 dc4 pm4 an4 cd4 ct4, f5, PySem.W.fnOf "is_key" "is_key" (defArgs s_is_key) (defBody s_is_key) (defScope s_is_key) .none kV5 dc5 pm5 an5 cd5 ct5, f6, PySem.W.fnOf "check_value" "check_value" (defArgs s_check_value) (defBody s_check_value) (defScope s_check_value) .none kV6 dc6 pm6 an6 cd6 ct6, f7, PySem.W.fnOf "read_parts" "read_parts" (defArgs s_read_parts) (defBody s_read_parts) (defScope s_read_parts) .none kV7 dc7 pm7 an7 cd7 ct7, f8, PySem.W.fnOf "merged" "merged" (defArgs s_merged) (defBody s_merged) (defScope s_merged) .none kV8 dc8 pm8 an8 cd8 ct8, f9, PySem.W.fnOf "__init__" "Made.__init__" (defArgs s_Made_init) (defBody s_Made_init) (defScope s_Made_init) .none kV9 dc9 pm9 an9 cd9 ct9, f10, PySem.W.fnOf "valued" "valued" (defArgs s_valued) (defBody s_valued) (defScope s_valued) .none kV10 dc10 pm10 an10 cd10 ct10, f11, PySem.W.fnOf "template_of" "template_of" (defArgs s_template_of) (defBody s_template_of) (defScope s_template_of) .none kV11 dc11 pm11 an11 cd11 ct11, f12, PySem.W.fnOf "__init__" "Piece.__init__" (defArgs s_Piece_init) (defBody s_Piece_init) (defScope s_Piece_init) (.ref dT12) kV12 dc12 pm12 an12 cd12 ct12, f13, PySem.W.fnOf "of" "Piece.of" (defArgs s_Piece_of) (defBody s_Piece_of) (defScope s_Piece_of) .none kV13 dc13 pm13 an13 cd13 ct13, pr13, f14, PySem.W.fnOf "parts" "Piece.parts" (defArgs s_Piece_parts) (defBody s_Piece_parts) (defScope s_Piece_parts) .none kV14 dc14 pm14 an14 cd14 ct14, pr14, f15, PySem.W.fnOf "holes" "Piece.holes" (defArgs s_Piece_holes) (defBody s_Piece_holes) (defScope s_Piece_holes) .none kV15 dc15 pm15 an15 cd15 ct15, f16, PySem.W.fnOf "__len__" "Piece.__len__" (defArgs s_Piece_len) (defBody s_Piece_len) (defScope s_Piece_len) .none kV16 dc16 pm16 an16 cd16 ct16, f17, PySem.W.fnOf "__bool__" "Piece.__bool__" (defArgs s_Piece_bool) (defBody s_Piece_bool) (defScope s_Piece_bool) .none kV17 dc17 pm17 an17 cd17 ct17, f18, PySem.W.fnOf "__eq__" "Piece.__eq__" (defArgs s_Piece_eq) (defBody s_Piece_eq) (defScope s_Piece_eq) .none kV18 dc18 pm18 an18 cd18 ct18, f19, PySem.W.fnOf "__init__" "Template.__init__" (defArgs s_Template_init) (defBody s_Template_init) (defScope s_Template_init) .none kV19 dc19 pm19 an19 cd19 ct19, f20, PySem.W.fnOf "__call__" "Template.__call__" (defArgs s_Template_call) (defBody s_Template_call) (defScope s_Template_call) (.ref dT20) kV20 dc20 pm20 an20 cd20 ct20, DT20_0, f21, PySem.W.fnOf "__init__" "BadText.__init__" (defArgs s_BadText_init) (defBody s_BadText_init) (defScope s_BadText_init) .none kV21 dc21 pm21 an21 cd21 ct21, f22, PySem.W.fnOf "__init__" "BadValue.__init__" (defArgs s_BadValue_init) (defBody s_BadValue_init) (defScope s_BadValue_init) .none kV22 dc22 pm22 an22 cd22 ct22, f23, PySem.W.fnOf "__init__" "Mismatch.__init__" (defArgs s_Mismatch_init) (defBody s_Mismatch_init) (defScope s_Mismatch_init) .none kV23 dc23 pm23 an23 cd23 ct23, f24, PySem.W.fnOf "__init__" "NoLabel.__init__" (defArgs s_NoLabel_init) (defBody s_NoLabel_init) (defScope s_NoLabel_init) .none kV24 dc24 pm24 an24 cd24 ct24, f25, PySem.W.fnOf "__init__" "Unused.__init__" (defArgs s_Unused_init) (defBody s_Unused_init) (defScope s_Unused_init) .none kV25 dc25 pm25 an25 cd25 ct25, f26, PySem.W.fnOf "_law_bag" "_law_bag" (defArgs s_l_bag) (defBody s_l_bag) (defScope s_l_bag) .none kV26 dc26 pm26 an26 cd26 ct26, f27, PySem.W.fnOf "_law_take" "_law_take" (defArgs s_l_take) (defBody s_l_take) (defScope s_l_take) .none kV27 dc27 pm27 an27 cd27 ct27, f28, PySem.W.fnOf "_law_of" "_law_of" (defArgs s_l_of) (defBody s_l_of) (defScope s_l_of) .none kV28 dc28 pm28 an28 cd28 ct28, f29, PySem.W.fnOf "_law_wide" "_law_wide" (defArgs s_l_wide) (defBody s_l_wide) (defScope s_l_wide) .none kV29 dc29 pm29 an29 cd29 ct29, f30, PySem.W.fnOf "_law_value" "_law_value" (defArgs s_l_value) (defBody s_l_value) (defScope s_l_value) .none kV30 dc30 pm30 an30 cd30 ct30, f31, PySem.W.fnOf "_law_labels" "_law_labels" (defArgs s_l_labels) (defBody s_l_labels) (defScope s_l_labels) .none kV31 dc31 pm31 an31 cd31 ct31, f32, PySem.W.fnOf "_law_literal" "_law_literal" (defArgs s_l_literal) (defBody s_l_literal) (defScope s_l_literal) .none kV32 dc32 pm32 an32 cd32 ct32, f33, PySem.W.fnOf "_law_merged" "_law_merged" (defArgs s_l_merged) (defBody s_l_merged) (defScope s_l_merged) .none kV33 dc33 pm33 an33 cd33 ct33, f34, PySem.W.fnOf "_law_text" "_law_text" (defArgs s_l_text) (defBody s_l_text) (defScope s_l_text) .none kV34 dc34 pm34 an34 cd34 ct34, f35, PySem.W.fnOf "_law_hole" "_law_hole" (defArgs s_l_hole) (defBody s_l_hole) (defScope s_l_hole) .none kV35 dc35 pm35 an35 cd35 ct35, f36, PySem.W.fnOf "_law_read" "_law_read" (defArgs s_l_read) (defBody s_l_read) (defScope s_l_read) .none kV36 dc36 pm36 an36 cd36 ct36, f37, PySem.W.fnOf "_law_spoilt" "_law_spoilt" (defArgs s_l_spoilt) (defBody s_l_spoilt) (defScope s_l_spoilt) .none kV37 dc37 pm37 an37 cd37 ct37, f38, PySem.W.fnOf "_law_odd" "_law_odd" (defArgs s_l_odd) (defBody s_l_odd) (defScope s_l_odd) .none kV38 dc38 pm38 an38 cd38 ct38, f39, PySem.W.fnOf "_law_parts" "_law_parts" (defArgs s_l_parts) (defBody s_l_parts) (defScope s_l_parts) .none kV39 dc39 pm39 an39 cd39 ct39, f40, PySem.W.fnOf "_law_values" "_law_values" (defArgs s_l_values) (defBody s_l_values) (defScope s_l_values) .none kV40 dc40 pm40 an40 cd40 ct40, f41, PySem.W.fnOf "_law_table" "_law_table" (defArgs s_l_table) (defBody s_l_table) (defScope s_l_table) .none kV41 dc41 pm41 an41 cd41 ct41, f42, PySem.W.fnOf "_law_is" "_law_is" (defArgs s_l_is) (defBody s_l_is) (defScope s_l_is) .none kV42 dc42 pm42 an42 cd42 ct42, f43, PySem.W.fnOf "_law_raised" "_law_raised" (defArgs s_l_raised) (defBody s_l_raised) (defScope s_l_raised) .none kV43 dc43 pm43 an43 cd43 ct43, f44, PySem.W.fnOf "_law_wrong" "_law_wrong" (defArgs s_l_wrong) (defBody s_l_wrong) (defScope s_l_wrong) .none kV44 dc44 pm44 an44 cd44 ct44, f45, PySem.W.fnOf "_law_valued" "_law_valued" (defArgs s_l_valued) (defBody s_l_valued) (defScope s_l_valued) .none kV45 dc45 pm45 an45 cd45 ct45, f46, PySem.W.fnOf "_law_errors" "_law_errors" (defArgs s_l_errors) (defBody s_l_errors) (defScope s_l_errors) .none kV46 dc46 pm46 an46 cd46 ct46, fa, PySem.W.fnOf "law" "law" (defArgs s_law) (defBody s_law) (defScope s_law) .none kV47 dc47 pm47 an47 cd47 ct47, C0, C1, C2, X0, X1, X2, X3, X4, X5⟩ := {
    F_is_word := F0,
    b_is_word := b0,
    g_is_word := PySem.W.mg_of X G a0,
    F_is_count := F1,
    b_is_count := b1,
    g_is_count := PySem.W.mg_of X G a1,
    F_is_label := F2,
    b_is_label := b2,
    g_is_label := PySem.W.mg_of X G a2,
    F_is_value := F3,
    b_is_value := b3,
    g_is_value := PySem.W.mg_of X G a3,
    F_is_literal := F4,
    b_is_literal := b4,
    g_is_literal := PySem.W.mg_of X G a4,
    F_is_key := F5,
    b_is_key := b5,
    g_is_key := PySem.W.mg_of X G a5,
    F_check_value := F6,
    b_check_value := b6,
    g_check_value := PySem.W.mg_of X G a6,
    F_read_parts := F7,
    b_read_parts := b7,
    g_read_parts := PySem.W.mg_of X G a7,
    F_merged := F8,
    b_merged := b8,
    g_merged := PySem.W.mg_of X G a8,
    F_Made_init := F9,
    b_Made_init := b9,
    m_Made_init := ⟨a9, i9, k9⟩,
    F_valued := F10,
    b_valued := b10,
    g_valued := PySem.W.mg_of X G a10,
    F_template_of := F11,
    b_template_of := b11,
    g_template_of := PySem.W.mg_of X G a11,
    F_Piece_init := F12,
    m_Piece_init := ⟨a12, i12, k12⟩,
    F_Piece_of := F13,
    b_Piece_of := b13,
    cm_Piece_of := ⟨pa13, ⟨_, pd13⟩, pf13⟩,
    F_Piece_parts := F14,
    b_Piece_parts := b14,
    p_Piece_parts := ⟨pa14, pb14, pc14, _, pd14⟩,
    F_Piece_holes := F15,
    b_Piece_holes := b15,
    m_Piece_holes := ⟨a15, i15, k15⟩,
    F_Piece_len := F16,
    b_Piece_len := b16,
    m_Piece_len := ⟨a16, i16, k16⟩,
    F_Piece_bool := F17,
    b_Piece_bool := b17,
    m_Piece_bool := ⟨a17, i17, k17⟩,
    F_Piece_eq := F18,
    b_Piece_eq := b18,
    m_Piece_eq := ⟨a18, i18, k18⟩,
    F_Template_init := F19,
    b_Template_init := b19,
    m_Template_init := ⟨a19, i19, k19⟩,
    F_Template_call := F20,
    bp_Template_call_0 := bp20_0,
    bp_Template_call_1 := bp20_1,
    bp_Template_call_2 := bp20_2,
    tt_Template_call_0 := fun H => .inr ⟨_, _, _, lD20_0, rfl, rfl, Nat.le_of_ble_eq_true rfl, .nil⟩,
    m_Template_call := ⟨a20, i20, k20⟩,
    F_BadText_init := F21,
    b_BadText_init := b21,
    F_BadValue_init := F22,
    b_BadValue_init := b22,
    F_Mismatch_init := F23,
    b_Mismatch_init := b23,
    F_NoLabel_init := F24,
    b_NoLabel_init := b24,
    F_Unused_init := F25,
    b_Unused_init := b25,
    F_l_bag := F26,
    b_l_bag := b26,
    g_l_bag := PySem.W.mg_of X G a26,
    F_l_take := F27,
    b_l_take := b27,
    g_l_take := PySem.W.mg_of X G a27,
    F_l_of := F28,
    b_l_of := b28,
    g_l_of := PySem.W.mg_of X G a28,
    F_l_wide := F29,
    b_l_wide := b29,
    g_l_wide := PySem.W.mg_of X G a29,
    F_l_value := F30,
    b_l_value := b30,
    g_l_value := PySem.W.mg_of X G a30,
    F_l_labels := F31,
    b_l_labels := b31,
    g_l_labels := PySem.W.mg_of X G a31,
    F_l_literal := F32,
    b_l_literal := b32,
    g_l_literal := PySem.W.mg_of X G a32,
    F_l_merged := F33,
    b_l_merged := b33,
    g_l_merged := PySem.W.mg_of X G a33,
    F_l_text := F34,
    b_l_text := b34,
    g_l_text := PySem.W.mg_of X G a34,
    F_l_hole := F35,
    b_l_hole := b35,
    g_l_hole := PySem.W.mg_of X G a35,
    F_l_read := F36,
    b_l_read := b36,
    g_l_read := PySem.W.mg_of X G a36,
    F_l_spoilt := F37,
    b_l_spoilt := b37,
    g_l_spoilt := PySem.W.mg_of X G a37,
    F_l_odd := F38,
    b_l_odd := b38,
    g_l_odd := PySem.W.mg_of X G a38,
    F_l_parts := F39,
    b_l_parts := b39,
    g_l_parts := PySem.W.mg_of X G a39,
    F_l_values := F40,
    b_l_values := b40,
    g_l_values := PySem.W.mg_of X G a40,
    F_l_table := F41,
    b_l_table := b41,
    g_l_table := PySem.W.mg_of X G a41,
    F_l_is := F42,
    b_l_is := b42,
    g_l_is := PySem.W.mg_of X G a42,
    F_l_raised := F43,
    b_l_raised := b43,
    g_l_raised := PySem.W.mg_of X G a43,
    F_l_wrong := F44,
    b_l_wrong := b44,
    g_l_wrong := PySem.W.mg_of X G a44,
    F_l_valued := F45,
    b_l_valued := b45,
    g_l_valued := PySem.W.mg_of X G a45,
    F_l_errors := F46,
    b_l_errors := b46,
    g_l_errors := PySem.W.mg_of X G a46,
    F_law := F47,
    b_law := b47,
    g_law := PySem.W.mg_of X G a47,
    cl_Made := ⟨pg0, hd0, po0, sa0⟩,
    g_Made := PySem.W.mg_of X G aC0,
    mk_Made := ⟨mk0, a9, i9, kc0⟩,
    n_Made_cells := n0_0,
    n_Made_level := n0_1,
    ki_Made_str := ki0_str,
    i_Made := fun e => .ins e ⟨pg0, hd0, po0, sa0⟩ w0 y0 y1 x0,
    cl_Piece := ⟨pg1, hd1, po1, sa1⟩,
    g_Piece := PySem.W.mg_of X G aC1,
    mk_Piece := ⟨mk1, a12, i12, kc1⟩,
    cr_Piece := ⟨rd1, rg1⟩,
    n_Piece_cells := n1_0,
    n_Piece_level := n1_1,
    n_Piece_text := n1_2,
    ki_Piece_str := ki1_str,
    ki_Piece_list := ki1_list,
    ki_Piece_int := ki1_int,
    i_Piece := fun e => .ins e ⟨pg1, hd1, po1, sa1⟩ w1 y0 y1 x1,
    cl_Template := ⟨pg2, hd2, po2, sa2⟩,
    g_Template := PySem.W.mg_of X G aC2,
    mk_Template := ⟨mk2, a19, i19, kc2⟩,
    n_Template_text := n2_0,
    n_Template_labels := n2_1,
    n_Template_places := n2_2,
    fi_Template_call := fi20,
    g_OwnholesError := PySem.W.mg_of X G ax0,
    xn_OwnholesError := ⟨eCx0, hCx0, tCx0⟩,
    s_OwnholesError_OwnholesError := sx0_0,
    s_OwnholesError_BadText := sx0_1,
    s_OwnholesError_BadValue := sx0_2,
    s_OwnholesError_Mismatch := sx0_3,
    s_OwnholesError_NoLabel := sx0_4,
    s_OwnholesError_Unused := sx0_5,
    g_BadText := PySem.W.mg_of X G ax1,
    xn_BadText := ⟨eCx1, hCx1, tCx1⟩,
    x_BadText := ⟨⟨⟨nmx1, qx1, Nx1, bsx1, _, snx1, subx1, abx1, colx1, ddx1, m0x1, m1x1, m2x1, m3x1, m5x1, xL1, rfl⟩, sax1, eCx1, tCx1, kXx1⟩, a21, i21, ⟨gax1, ggx1, eCx1, hCx1, hax1, y0, y1, hmx1⟩⟩,
    no_BadText_at := nx1_0,
    s_BadText_OwnholesError := sx1_0,
    s_BadText_BadText := sx1_1,
    s_BadText_BadValue := sx1_2,
    s_BadText_Mismatch := sx1_3,
    s_BadText_NoLabel := sx1_4,
    s_BadText_Unused := sx1_5,
    g_BadValue := PySem.W.mg_of X G ax2,
    xn_BadValue := ⟨eCx2, hCx2, tCx2⟩,
    x_BadValue := ⟨⟨⟨nmx2, qx2, Nx2, bsx2, _, snx2, subx2, abx2, colx2, ddx2, m0x2, m1x2, m2x2, m3x2, m5x2, xL2, rfl⟩, sax2, eCx2, tCx2, kXx2⟩, a22, i22, ⟨gax2, ggx2, eCx2, hCx2, hax2, y0, y1, hmx2⟩⟩,
    no_BadValue_value := nx2_0,
    s_BadValue_OwnholesError := sx2_0,
    s_BadValue_BadText := sx2_1,
    s_BadValue_BadValue := sx2_2,
    s_BadValue_Mismatch := sx2_3,
    s_BadValue_NoLabel := sx2_4,
    s_BadValue_Unused := sx2_5,
    g_Mismatch := PySem.W.mg_of X G ax3,
    xn_Mismatch := ⟨eCx3, hCx3, tCx3⟩,
    x_Mismatch := ⟨⟨⟨nmx3, qx3, Nx3, bsx3, _, snx3, subx3, abx3, colx3, ddx3, m0x3, m1x3, m2x3, m3x3, m5x3, xL3, rfl⟩, sax3, eCx3, tCx3, kXx3⟩, a23, i23, ⟨gax3, ggx3, eCx3, hCx3, hax3, y0, y1, hmx3⟩⟩,
    no_Mismatch_wanted := nx3_0,
    no_Mismatch_got := nx3_1,
    s_Mismatch_OwnholesError := sx3_0,
    s_Mismatch_BadText := sx3_1,
    s_Mismatch_BadValue := sx3_2,
    s_Mismatch_Mismatch := sx3_3,
    s_Mismatch_NoLabel := sx3_4,
    s_Mismatch_Unused := sx3_5,
    g_NoLabel := PySem.W.mg_of X G ax4,
    xn_NoLabel := ⟨eCx4, hCx4, tCx4⟩,
    x_NoLabel := ⟨⟨⟨nmx4, qx4, Nx4, bsx4, _, snx4, subx4, abx4, colx4, ddx4, m0x4, m1x4, m2x4, m3x4, m5x4, xL4, rfl⟩, sax4, eCx4, tCx4, kXx4⟩, a24, i24, ⟨gax4, ggx4, eCx4, hCx4, hax4, y0, y1, hmx4⟩⟩,
    no_NoLabel_label := nx4_0,
    s_NoLabel_OwnholesError := sx4_0,
    s_NoLabel_BadText := sx4_1,
    s_NoLabel_BadValue := sx4_2,
    s_NoLabel_Mismatch := sx4_3,
    s_NoLabel_NoLabel := sx4_4,
    s_NoLabel_Unused := sx4_5,
    g_Unused := PySem.W.mg_of X G ax5,
    xn_Unused := ⟨eCx5, hCx5, tCx5⟩,
    x_Unused := ⟨⟨⟨nmx5, qx5, Nx5, bsx5, _, snx5, subx5, abx5, colx5, ddx5, m0x5, m1x5, m2x5, m3x5, m5x5, xL5, rfl⟩, sax5, eCx5, tCx5, kXx5⟩, a25, i25, ⟨gax5, ggx5, eCx5, hCx5, hax5, y0, y1, hmx5⟩⟩,
    no_Unused_label := nx5_0,
    s_Unused_OwnholesError := sx5_0,
    s_Unused_BadText := sx5_1,
    s_Unused_BadValue := sx5_2,
    s_Unused_Mismatch := sx5_3,
    s_Unused_NoLabel := sx5_4,
    s_Unused_Unused := sx5_5,
    u_abs := PySem.W.mg_none_of X G z0,
    u_all := PySem.W.mg_none_of X G z1,
    u_bool := PySem.W.mg_none_of X G z2,
    u_enumerate := PySem.W.mg_none_of X G z3,
    u_int := PySem.W.mg_none_of X G z4,
    u_isinstance := PySem.W.mg_none_of X G z5,
    u_len := PySem.W.mg_none_of X G z6,
    u_list := PySem.W.mg_none_of X G z7,
    u_max := PySem.W.mg_none_of X G z8,
    u_min := PySem.W.mg_none_of X G z9,
    u_ord := PySem.W.mg_none_of X G z10,
    u_range := PySem.W.mg_none_of X G z11,
    u_repr := PySem.W.mg_none_of X G z12,
    u_sorted := PySem.W.mg_none_of X G z13,
    u_str := PySem.W.mg_none_of X G z14,
    u_tuple := PySem.W.mg_none_of X G z15,
    u_zip := PySem.W.mg_none_of X G z16,
    g_DIGITS := ⟨_, PySem.W.mg_of X G kst_DIGITS, _, rfl⟩,
    g_MOST_DIGITS := ⟨_, PySem.W.mg_of X G kst_MOST_DIGITS, _, rfl⟩,
    g_MOST_VALUE := ⟨_, PySem.W.mg_of X G kst_MOST_VALUE, _, rfl⟩,
    g_MOST_WORD := ⟨_, PySem.W.mg_of X G kst_MOST_WORD, _, rfl⟩ }
  exact ⟨PySem.W.fnOf "law" "law" (defArgs s_law) (defBody s_law) (defScope s_law) .none kV47 dc47 pm47 an47 cd47 ct47, fun s v => .of_eq rfl, fun base _ _ => ok_law T⟩
theorem walk {l : PySem.W.OpenLaw} {q : Program} {loose : List Str} {XP : (Str → Option Value) → Heap → Prop} {YP : World → Heap → Prop} {d : DefRec} {K : Params → PySem.W.Frag} (hn : l.most = some 63) (hdf : d.params.defaults = [])
    (hY : ∀ (w : World) (h : Heap), YP w h → (K w.params).In h)
    (F : ∀ (w : World) (mg : Str → Option Value) (fa : Addr) (h : Heap), (K w.params).In h → h.Ns mainGlobals mg → mg d.name = some (.ref fa) →
      ∃ fd : FuncData, (∀ (s : Shared) (u : Value), BindsTo s fd ⟨[u], []⟩ [("_law_script", u)]) ∧ ∀ base : Heap, (K w.params).In base → base.Ns mainGlobals mg → Gd.FnG l.prog w (K w.params) mg base CX0 15 fa fd ["_law_script"] (sp_law (K w.params))) :
    PySem.W.WalkO q loose XP YP l.row.toRowW d [] (fun f vs => PySem.call f vs) :=
  Gd.walk_ofG (n := 63) (k := 15) (x := "_law_script") (sp := fun w => sp_law (K w.params)) hn (by decide) hdf ⟨rfl, by decide, by decide⟩ hY F (fun _ _ a ns hl _ hS => ⟨a, ns, rfl, hS, hl, fun _ => rfl⟩)
end LW
open PySem PySem.W PyProof.Rows
set_option maxRecDepth 100000 in
set_option maxHeartbeats 8000000 in
theorem PySem.Challenge.cw_ownholes_k11_templates_holds : PySem.Challenge.rw_ownholes_k11_templates.Holds := by
  w_on; o_law; k_head; (case hw => w_witness2)
  k_fill
  refine LW.walk (l := PySem.Challenge.rw_ownholes_k11_templates) rfl rfl (fun w h Y => PySem.W.kIn_of Y) ?F
  case F =>
    intro w mg fa h KX G hmg
    refine' LW.all_mk KX G hmg ?ax0 ?ax1 ?ax2 ?ax3 ?ax4 ?ax5 ?aC0 ?aC1 ?aC2 ?a0 ?l0 ?c0 ?k0 ?a1 ?l1 ?c1 ?k1 ?a2 ?l2 ?c2 ?k2 ?a3 ?l3 ?c3 ?k3 ?a4 ?l4 ?c4 ?k4 ?a5 ?l5 ?c5 ?k5 ?a6 ?l6 ?c6 ?k6 ?a7 ?l7 ?c7 ?k7 ?a8 ?l8 ?c8 ?k8 ?a9 ?i9 ?l9 ?c9 ?k9 ?a10 ?l10 ?c10 ?k10 ?a11 ?l11 ?c11 ?k11 ?a12 ?i12 ?l12 ?lT12 ?c12 ?k12 ?pa13 ?pd13 ?pf13 ?l13 ?c13 ?k13 ?pa14 ?pb14 ?pc14 ?pd14 ?l14 ?c14 ?k14 ?a15 ?i15 ?l15 ?c15 ?k15 ?a16 ?i16 ?l16 ?c16 ?k16 ?a17 ?i17 ?l17 ?c17 ?k17 ?a18 ?i18 ?l18 ?c18 ?k18 ?a19 ?i19 ?l19 ?c19 ?k19 ?a20 ?i20 ?l20 ?lT20 ?lD20_0 ?c20 ?k20 ?a21 ?i21 ?l21 ?c21 ?k21 ?a22 ?i22 ?l22 ?c22 ?k22 ?a23 ?i23 ?l23 ?c23 ?k23 ?a24 ?i24 ?l24 ?c24 ?k24 ?a25 ?i25 ?l25 ?c25 ?k25 ?a26 ?l26 ?c26 ?k26 ?a27 ?l27 ?c27 ?k27 ?a28 ?l28 ?c28 ?k28 ?a29 ?l29 ?c29 ?k29 ?a30 ?l30 ?c30 ?k30 ?a31 ?l31 ?c31 ?k31 ?a32 ?l32 ?c32 ?k32 ?a33 ?l33 ?c33 ?k33 ?a34 ?l34 ?c34 ?k34 ?a35 ?l35 ?c35 ?k35 ?a36 ?l36 ?c36 ?k36 ?a37 ?l37 ?c37 ?k37 ?a38 ?l38 ?c38 ?k38 ?a39 ?l39 ?c39 ?k39 ?a40 ?l40 ?c40 ?k40 ?a41 ?l41 ?c41 ?k41 ?a42 ?l42 ?c42 ?k42 ?a43 ?l43 ?c43 ?k43 ?a44 ?l44 ?c44 ?k44 ?a45 ?l45 ?c45 ?k45 ?a46 ?l46 ?c46 ?k46 ?a47 ?l47 ?c47 ?k47 ?pg0 ?hd0 ?po0 ?sa0 ?mk0 ?kc0 ?w0 ?x0 ?ki0_str ?n0_0 ?n0_1 ?pg1 ?hd1 ?po1 ?sa1 ?mk1 ?kc1 ?w1 ?x1 ?ki1_str ?ki1_list ?ki1_int ?rd1 ?rg1 ?n1_0 ?n1_1 ?n1_2 ?pg2 ?hd2 ?po2 ?sa2 ?mk2 ?kc2 ?fi20 ?n2_0 ?n2_1 ?n2_2 ?xL0 ?sax0 ?gax0 ?ggx0 ?eCx0 ?tCx0 ?hCx0 ?kXx0 ?hax0 ?hmx0 ?sx0_0 ?sx0_1 ?sx0_2 ?sx0_3 ?sx0_4 ?sx0_5 ?xL1 ?sax1 ?gax1 ?ggx1 ?eCx1 ?tCx1 ?hCx1 ?kXx1 ?hax1 ?hmx1 ?nx1_0 ?sx1_0 ?sx1_1 ?sx1_2 ?sx1_3 ?sx1_4 ?sx1_5 ?xL2 ?sax2 ?gax2 ?ggx2 ?eCx2 ?tCx2 ?hCx2 ?kXx2 ?hax2 ?hmx2 ?nx2_0 ?sx2_0 ?sx2_1 ?sx2_2 ?sx2_3 ?sx2_4 ?sx2_5 ?xL3 ?sax3 ?gax3 ?ggx3 ?eCx3 ?tCx3 ?hCx3 ?kXx3 ?hax3 ?hmx3 ?nx3_0 ?nx3_1 ?sx3_0 ?sx3_1 ?sx3_2 ?sx3_3 ?sx3_4 ?sx3_5 ?xL4 ?sax4 ?gax4 ?ggx4 ?eCx4 ?tCx4 ?hCx4 ?kXx4 ?hax4 ?hmx4 ?nx4_0 ?sx4_0 ?sx4_1 ?sx4_2 ?sx4_3 ?sx4_4 ?sx4_5 ?xL5 ?sax5 ?gax5 ?ggx5 ?eCx5 ?tCx5 ?hCx5 ?kXx5 ?hax5 ?hmx5 ?nx5_0 ?sx5_0 ?sx5_1 ?sx5_2 ?sx5_3 ?sx5_4 ?sx5_5 ?y0 ?y1 ?kst_DIGITS ?kst_MOST_DIGITS ?kst_MOST_VALUE ?kst_MOST_WORD ?z0 ?z1 ?z2 ?z3 ?z4 ?z5 ?z6 ?z7 ?z8 ?z9 ?z10 ?z11 ?z12 ?z13 ?z14 ?z15 ?z16
    (case ax0 => k_is)
    (case ax1 => k_is)
    (case ax2 => k_is)
    (case ax3 => k_is)
    (case ax4 => k_is)
    (case ax5 => k_is)
    (case aC0 => k_is)
    (case aC1 => k_is)
    (case aC2 => k_is)
    (case a0 => k_is)
    (case l0 => k_is)
    (case c0 => k_is)
    (case k0 => k_is)
    (case a1 => k_is)
    (case l1 => k_is)
    (case c1 => k_is)
    (case k1 => k_is)
    (case a2 => k_is)
    (case l2 => k_is)
    (case c2 => k_is)
    (case k2 => k_is)
    (case a3 => k_is)
    (case l3 => k_is)
    (case c3 => k_is)
    (case k3 => k_is)
    (case a4 => k_is)
    (case l4 => k_is)
    (case c4 => k_is)
    (case k4 => k_is)
    (case a5 => k_is)
    (case l5 => k_is)
    (case c5 => k_is)
    (case k5 => k_is)
    (case a6 => k_is)
    (case l6 => k_is)
    (case c6 => k_is)
    (case k6 => k_is)
    (case a7 => k_is)
    (case l7 => k_is)
    (case c7 => k_is)
    (case k7 => k_is)
    (case a8 => k_is)
    (case l8 => k_is)
    (case c8 => k_is)
    (case k8 => k_is)
    (case a9 => k_is)
    (case i9 => k_is)
    (case l9 => k_is)
    (case c9 => k_is)
    (case k9 => k_is)
    (case a10 => k_is)
    (case l10 => k_is)
    (case c10 => k_is)
    (case k10 => k_is)
    (case a11 => k_is)
    (case l11 => k_is)
    (case c11 => k_is)
    (case k11 => k_is)
    (case a12 => k_is)
    (case i12 => k_is)
    (case l12 => k_is)
    (case lT12 => k_is)
    (case c12 => k_is)
    (case k12 => k_is)
    (case pa13 => k_is)
    (case pd13 => k_is)
    (case pf13 => k_is)
    (case l13 => k_is)
    (case c13 => k_is)
    (case k13 => k_is)
    (case pa14 => k_is)
    (case pb14 => k_is)
    (case pc14 => k_is)
    (case pd14 => k_is)
    (case l14 => k_is)
    (case c14 => k_is)
    (case k14 => k_is)
    (case a15 => k_is)
    (case i15 => k_is)
    (case l15 => k_is)
    (case c15 => k_is)
    (case k15 => k_is)
    (case a16 => k_is)
    (case i16 => k_is)
    (case l16 => k_is)
    (case c16 => k_is)
    (case k16 => k_is)
    (case a17 => k_is)
    (case i17 => k_is)
    (case l17 => k_is)
    (case c17 => k_is)
    (case k17 => k_is)
    (case a18 => k_is)
    (case i18 => k_is)
    (case l18 => k_is)
    (case c18 => k_is)
    (case k18 => k_is)
    (case a19 => k_is)
    (case i19 => k_is)
    (case l19 => k_is)
    (case c19 => k_is)
    (case k19 => k_is)
    (case a20 => k_is)
    (case i20 => k_is)
    (case l20 => k_is)
    (case lT20 => k_is)
    (case lD20_0 => k_is)
    (case c20 => k_is)
    (case k20 => k_is)
    (case a21 => k_is)
    (case i21 => k_is)
    (case l21 => k_is)
    (case c21 => k_is)
    (case k21 => k_is)
    (case a22 => k_is)
    (case i22 => k_is)
    (case l22 => k_is)
    (case c22 => k_is)
    (case k22 => k_is)
    (case a23 => k_is)
    (case i23 => k_is)
    (case l23 => k_is)
    (case c23 => k_is)
    (case k23 => k_is)
    (case a24 => k_is)
    (case i24 => k_is)
    (case l24 => k_is)
    (case c24 => k_is)
    (case k24 => k_is)
    (case a25 => k_is)
    (case i25 => k_is)
    (case l25 => k_is)
    (case c25 => k_is)
    (case k25 => k_is)
    (case a26 => k_is)
    (case l26 => k_is)
    (case c26 => k_is)
    (case k26 => k_is)
    (case a27 => k_is)
    (case l27 => k_is)
    (case c27 => k_is)
    (case k27 => k_is)
    (case a28 => k_is)
    (case l28 => k_is)
    (case c28 => k_is)
    (case k28 => k_is)
    (case a29 => k_is)
    (case l29 => k_is)
    (case c29 => k_is)
    (case k29 => k_is)
    (case a30 => k_is)
    (case l30 => k_is)
    (case c30 => k_is)
    (case k30 => k_is)
    (case a31 => k_is)
    (case l31 => k_is)
    (case c31 => k_is)
    (case k31 => k_is)
    (case a32 => k_is)
    (case l32 => k_is)
    (case c32 => k_is)
    (case k32 => k_is)
    (case a33 => k_is)
    (case l33 => k_is)
    (case c33 => k_is)
    (case k33 => k_is)
    (case a34 => k_is)
    (case l34 => k_is)
    (case c34 => k_is)
    (case k34 => k_is)
    (case a35 => k_is)
    (case l35 => k_is)
    (case c35 => k_is)
    (case k35 => k_is)
    (case a36 => k_is)
    (case l36 => k_is)
    (case c36 => k_is)
    (case k36 => k_is)
    (case a37 => k_is)
    (case l37 => k_is)
    (case c37 => k_is)
    (case k37 => k_is)
    (case a38 => k_is)
    (case l38 => k_is)
    (case c38 => k_is)
    (case k38 => k_is)
    (case a39 => k_is)
    (case l39 => k_is)
    (case c39 => k_is)
    (case k39 => k_is)
    (case a40 => k_is)
    (case l40 => k_is)
    (case c40 => k_is)
    (case k40 => k_is)
    (case a41 => k_is)
    (case l41 => k_is)
    (case c41 => k_is)
    (case k41 => k_is)
    (case a42 => k_is)
    (case l42 => k_is)
    (case c42 => k_is)
    (case k42 => k_is)
    (case a43 => k_is)
    (case l43 => k_is)
    (case c43 => k_is)
    (case k43 => k_is)
    (case a44 => k_is)
    (case l44 => k_is)
    (case c44 => k_is)
    (case k44 => k_is)
    (case a45 => k_is)
    (case l45 => k_is)
    (case c45 => k_is)
    (case k45 => k_is)
    (case a46 => k_is)
    (case l46 => k_is)
    (case c46 => k_is)
    (case k46 => k_is)
    (case a47 => k_is)
    (case l47 => k_is)
    (case c47 => k_is)
    (case k47 => k_is)
    (case pg0 => k_is)
    (case hd0 => k_is)
    (case po0 => k_is)
    (case sa0 => k_is)
    (case mk0 => k_is)
    (case kc0 => k_is)
    (case w0 => k_is)
    (case x0 => k_is)
    (case ki0_str => kit_is)
    (case n0_0 => k_is)
    (case n0_1 => k_is)
    (case pg1 => k_is)
    (case hd1 => k_is)
    (case po1 => k_is)
    (case sa1 => k_is)
    (case mk1 => k_is)
    (case kc1 => k_is)
    (case w1 => k_is)
    (case x1 => k_is)
    (case ki1_str => kit_is)
    (case ki1_list => kit_is)
    (case ki1_int => kit_is)
    (case rd1 => k_is)
    (case rg1 => k_is)
    (case n1_0 => k_is)
    (case n1_1 => k_is)
    (case n1_2 => k_is)
    (case pg2 => k_is)
    (case hd2 => k_is)
    (case po2 => k_is)
    (case sa2 => k_is)
    (case mk2 => k_is)
    (case kc2 => k_is)
    (case fi20 => k_is)
    (case n2_0 => k_is)
    (case n2_1 => k_is)
    (case n2_2 => k_is)
    (case xL0 => k_is)
    (case sax0 => k_is)
    (case gax0 => k_is)
    (case ggx0 => k_is)
    (case eCx0 => k_is)
    (case tCx0 => k_is)
    (case hCx0 => k_is)
    (case kXx0 => k_is)
    (case hax0 => k_is)
    (case hmx0 => k_is)
    (case sx0_0 => k_is)
    (case sx0_1 => k_is)
    (case sx0_2 => k_is)
    (case sx0_3 => k_is)
    (case sx0_4 => k_is)
    (case sx0_5 => k_is)
    (case xL1 => k_is)
    (case sax1 => k_is)
    (case gax1 => k_is)
    (case ggx1 => k_is)
    (case eCx1 => k_is)
    (case tCx1 => k_is)
    (case hCx1 => k_is)
    (case kXx1 => k_is)
    (case hax1 => k_is)
    (case hmx1 => k_is)
    (case nx1_0 => k_is)
    (case sx1_0 => k_is)
    (case sx1_1 => k_is)
    (case sx1_2 => k_is)
    (case sx1_3 => k_is)
    (case sx1_4 => k_is)
    (case sx1_5 => k_is)
    (case xL2 => k_is)
    (case sax2 => k_is)
    (case gax2 => k_is)
    (case ggx2 => k_is)
    (case eCx2 => k_is)
    (case tCx2 => k_is)
    (case hCx2 => k_is)
    (case kXx2 => k_is)
    (case hax2 => k_is)
    (case hmx2 => k_is)
    (case nx2_0 => k_is)
    (case sx2_0 => k_is)
    (case sx2_1 => k_is)
    (case sx2_2 => k_is)
    (case sx2_3 => k_is)
    (case sx2_4 => k_is)
    (case sx2_5 => k_is)
    (case xL3 => k_is)
    (case sax3 => k_is)
    (case gax3 => k_is)
    (case ggx3 => k_is)
    (case eCx3 => k_is)
    (case tCx3 => k_is)
    (case hCx3 => k_is)
    (case kXx3 => k_is)
    (case hax3 => k_is)
    (case hmx3 => k_is)
    (case nx3_0 => k_is)
    (case nx3_1 => k_is)
    (case sx3_0 => k_is)
    (case sx3_1 => k_is)
    (case sx3_2 => k_is)
    (case sx3_3 => k_is)
    (case sx3_4 => k_is)
    (case sx3_5 => k_is)
    (case xL4 => k_is)
    (case sax4 => k_is)
    (case gax4 => k_is)
    (case ggx4 => k_is)
    (case eCx4 => k_is)
    (case tCx4 => k_is)
    (case hCx4 => k_is)
    (case kXx4 => k_is)
    (case hax4 => k_is)
    (case hmx4 => k_is)
    (case nx4_0 => k_is)
    (case sx4_0 => k_is)
    (case sx4_1 => k_is)
    (case sx4_2 => k_is)
    (case sx4_3 => k_is)
    (case sx4_4 => k_is)
    (case sx4_5 => k_is)
    (case xL5 => k_is)
    (case sax5 => k_is)
    (case gax5 => k_is)
    (case ggx5 => k_is)
    (case eCx5 => k_is)
    (case tCx5 => k_is)
    (case hCx5 => k_is)
    (case kXx5 => k_is)
    (case hax5 => k_is)
    (case hmx5 => k_is)
    (case nx5_0 => k_is)
    (case sx5_0 => k_is)
    (case sx5_1 => k_is)
    (case sx5_2 => k_is)
    (case sx5_3 => k_is)
    (case sx5_4 => k_is)
    (case sx5_5 => k_is)
    (case y0 => k_is)
    (case y1 => k_is)
    (case kst_DIGITS => k_is)
    (case kst_MOST_DIGITS => k_is)
    (case kst_MOST_VALUE => k_is)
    (case kst_MOST_WORD => k_is)
    (case z0 => k_is)
    (case z1 => k_is)
    (case z2 => k_is)
    (case z3 => k_is)
    (case z4 => k_is)
    (case z5 => k_is)
    (case z6 => k_is)
    (case z7 => k_is)
    (case z8 => k_is)
    (case z9 => k_is)
    (case z10 => k_is)
    (case z11 => k_is)
    (case z12 => k_is)
    (case z13 => k_is)
    (case z14 => k_is)
    (case z15 => k_is)
    (case z16 => k_is)
